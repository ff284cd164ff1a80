import PyProof.Rows.All
import Wide.All
import OpenK.AllK
import Wide.FinOn
import KE.KStateDown
import HandS.ForMost
import HandS.Flow
import HandS.Style
import HandS.IsInst
import HandS.Strs
import HandS.SortInts
import HandS.Defaults
import HandS.SetFor
import HandS.More
import HandS.Finally
import HandS.DictComp
import HandS.DictEq
import HandS.DeepEq
import HandS.Exc
import HandS.Head0
import HandS.Head1
import HandS.Head2
import HandS.HeadEnd
import HandS.HeadHook1
import HandS.HeadHook2
import PySem.Challenge.RW_curbdesk_k20_merged_fit
section
set_option Elab.async false
set_option linter.all false
set_option maxRecDepth 100000
set_option maxHeartbeats 4000000
/-! L3: typed evaluation over the hand layer -/
namespace L3
open PySem PySem.Spec PyProof.Rows L2
abbrev SS := L2.St

/-! ### what never changes -/
def Pst : HO → Prop
  | .frz _ _ => True
  | .tup _ => True
  | _ => False
def Fzs (H H' : Hp) : Prop := ∀ a o, Pst o → H a = some o → H' a = some o
theorem Fzs.refl (H : Hp) : Fzs H H := fun _ _ _ h => h
theorem Fzs.trans {H H1 H2 : Hp} (a : Fzs H H1) (b : Fzs H1 H2) : Fzs H H2 := fun x o p h => b x o p (a x o p h)
def Gr (H H' : Hp) : Prop := ∀ a o, H a = some o → H' a = some o
theorem Gr.refl (H : Hp) : Gr H H := fun _ _ h => h
theorem Gr.trans {H H1 H2 : Hp} (a : Gr H H1) (b : Gr H1 H2) : Gr H H2 := fun x o h => b x o (a x o h)
theorem Gr.fzs {H H' : Hp} (g : Gr H H') : Fzs H H' := fun a o _ h => g a o h
theorem Gr.new {H : Hp} {p : Addr} {o : HO} (h : H p = none) : Gr H (upd H p o) := fun a u e => by
  rw [upd_ne (ne_of_none e h)]; exact e
theorem Mut.npst {o : HO} (m : Mut (some o)) : ¬ Pst o := by
  cases o <;> first | exact fun z => z | exact fun _ => m
theorem Fzs.mut {H : Hp} {p : Addr} {o u : HO} (h : H p = some o) (m : ¬ Pst o) : Fzs H (upd H p u) := fun a x px e => by
  have : a ≠ p := fun z => by subst z; rw [h] at e; cases e; exact m px
  rw [upd_ne this]; exact e

/-! ### frozen predicates -/
structure Pd where
  pr : Hp → V → Prop
  mono : ∀ {H H' : Hp} {v : V}, Fzs H H' → pr H v → pr H' v
def pInt (i : Int) : Pd := ⟨fun _ v => v = .int i, fun _ h => h⟩
def pBl (b : Bool) : Pd := ⟨fun _ v => v = .bl b, fun _ h => h⟩
def pStr (x : Str) : Pd := ⟨fun _ v => v = .str x, fun _ h => h⟩
def pNon : Pd := ⟨fun _ v => v = .non, fun _ h => h⟩
def pV (u : V) : Pd := ⟨fun _ v => v = u, fun _ h => h⟩
def pUnit (_ : Unit) : Pd := pNon
def pOp {α : Type} (E : α → Pd) : Option α → Pd
  | none => pNon
  | some x => E x
theorem paired_mono {α β : Type} {P Q : α → β → Prop} : ∀ {l₁ : List α} {l₂ : List β}, (∀ a b, P a b → Q a b) → Paired P l₁ l₂ → Paired Q l₁ l₂
  | _, _, _, .nil => .nil
  | _, _, f, .cons r t => .cons (f _ _ r) (paired_mono f t)
def pL {α : Type} (E : α → Pd) (xs : List α) : Pd where
  pr H v := ∃ a o vs, v = .ref a ∧ H a = some (.frz o (.lst vs)) ∧ xs.length ≤ sizeLine ∧ Paired (fun x u => (E x).pr H u) xs vs
  mono := fun f ⟨a, o, vs, e, h, z, p⟩ => ⟨a, o, vs, e, f _ _ trivial h, z, paired_mono (fun x _ => (E x).mono f) p⟩
/-- a tuple of any length, of one kind -/
def pTL {α : Type} (E : α → Pd) (xs : List α) : Pd where
  pr H v := ∃ a vs, v = .ref a ∧ H a = some (.tup vs) ∧ xs.length ≤ sizeLine ∧ Paired (fun x u => (E x).pr H u) xs vs
  mono := fun f ⟨a, vs, e, h, z, p⟩ => ⟨a, vs, e, f _ _ trivial h, z, paired_mono (fun x _ => (E x).mono f) p⟩
def pT2 {α β : Type} (E : α → Pd) (G : β → Pd) (x : α × β) : Pd where
  pr H v := ∃ a u w, v = .ref a ∧ H a = some (.tup [u, w]) ∧ (E x.1).pr H u ∧ (G x.2).pr H w
  mono := fun f ⟨a, u, w, e, h, p, q⟩ => ⟨a, u, w, e, f _ _ trivial h, (E _).mono f p, (G _).mono f q⟩
def pT3 {α β γ : Type} (E : α → Pd) (G : β → Pd) (K : γ → Pd) (x : α × β × γ) : Pd where
  pr H v := ∃ a u w z, v = .ref a ∧ H a = some (.tup [u, w, z]) ∧ (E x.1).pr H u ∧ (G x.2.1).pr H w ∧ (K x.2.2).pr H z
  mono := fun f ⟨a, u, w, z, e, h, p, q, r⟩ => ⟨a, u, w, z, e, f _ _ trivial h, (E _).mono f p, (G _).mono f q, (K _).mono f r⟩
/-- a dict with text keys -/
def pD {α : Type} (E : α → Pd) (xs : List (Str × α)) : Pd where
  pr H v := ∃ a o kvs, v = .ref a ∧ H a = some (.frz o (.dK kvs)) ∧ xs.length ≤ sizeLine ∧ Paired (fun (x : Str × α) (u : Key × V) => u.1 = .inr x.1 ∧ (E x.2).pr H u.2) xs kvs
  mono := fun f ⟨a, o, vs, e, h, z, p⟩ => ⟨a, o, vs, e, f _ _ trivial h, z, paired_mono (fun x _ q => ⟨q.1, (E x.2).mono f q.2⟩) p⟩
/-- a dict with int keys -/
def pDI {α : Type} (E : α → Pd) (xs : List (Int × α)) : Pd where
  pr H v := ∃ a o kvs, v = .ref a ∧ H a = some (.frz o (.dK kvs)) ∧ xs.length ≤ sizeLine ∧ Paired (fun (x : Int × α) (u : Key × V) => u.1 = .inl x.1 ∧ (E x.2).pr H u.2) xs kvs
  mono := fun f ⟨a, o, vs, e, h, z, p⟩ => ⟨a, o, vs, e, f _ _ trivial h, z, paired_mono (fun x _ q => ⟨q.1, (E x.2).mono f q.2⟩) p⟩

theorem upd_dom {H : Hp} (p : Addr) (u : HO) : ∀ a o, H a = some o → ∃ z, upd H p u a = some z := fun a o e => by
  by_cases h : a = p
  · exact ⟨u, by rw [h, upd_same]⟩
  · exact ⟨o, by rw [upd_ne h, e]⟩
/-! ### what is owned: its cells are known exactly, and may be written -/
/-- the things at G are locked, one after the other -/
def tLk : List Addr → (Hp → Prop) → Hp → Prop
  | [], Φ, H => Φ H
  | d :: G, Φ, H => ∃ u, H d = some u ∧ Mut (some u) ∧ ∀ o, tLk G Φ (upd H d (.frz o u))
theorem tLk.mono {Φ Ψ : Hp → Prop} (f : ∀ H, Φ H → Ψ H) : ∀ {G : List Addr} {H : Hp}, tLk G Φ H → tLk G Ψ H
  | [], _, h => f _ h
  | _ :: _, _, ⟨u, h, m, k⟩ => ⟨u, h, m, fun o => tLk.mono f (k o)⟩
theorem inv_lk {X : Cx} {pins : List (Addr × Obj)} {σ : SS} {s : Shared} {Φ : Hp → Prop} : ∀ {G : List Addr} {H : Hp}, Inv X pins σ H s → tLk G Φ H → ∃ H', Inv X pins σ H' s ∧ Φ H'
  | [], H, I, h => ⟨H, I, h⟩
  | _ :: _, _, I, ⟨u, h, m, k⟩ => by
    obtain ⟨o, I'⟩ := I.lock h m
    exact inv_lk I' (k o)
structure Od where
  pr : List Addr → Hp → V → Prop
  pd : Pd
  frame : ∀ {G : List Addr} {H H' : Hp} {v : V}, pr G H v → (∀ a ∈ G, ∀ o, H a = some o → H' a = some o) → Fzs H H' → pr G H' v
  cells : ∀ {G : List Addr} {H : Hp} {v : V}, pr G H v → ∀ a ∈ G, ∃ o, H a = some o ∧ Mut (some o)
  lockd : ∀ {G : List Addr} {H H1 : Hp} {v : V}, pr G H v → (∀ a, a ∉ G → H1 a = H a) → (∀ a ∈ G, ∀ u, H a = some u → ∃ o, H1 a = some (.frz o u)) → pd.pr H1 v
theorem tLk_of {Φ : Hp → Prop} : ∀ {G : List Addr} {H : Hp}, G.Nodup → (∀ a ∈ G, ∃ u, H a = some u ∧ Mut (some u)) → (∀ H1, (∀ a, a ∉ G → H1 a = H a) → (∀ a ∈ G, ∀ u, H a = some u → ∃ o, H1 a = some (.frz o u)) → Φ H1) → tLk G Φ H
  | [], H, _, _, k => k H (fun _ _ => rfl) fun _ h => absurd h List.not_mem_nil
  | d :: G, H, nd, hm, k => by
    obtain ⟨nd1, nd2⟩ := List.nodup_cons.mp nd
    obtain ⟨u, hu, mu⟩ := hm d List.mem_cons_self
    refine ⟨u, hu, mu, fun o => tLk_of nd2 (fun a ha => ?_) fun H1 h1 h2 => k H1 (fun a ha => ?_) fun a ha w hw => ?_⟩
    · rw [upd_ne (fun e => nd1 (by rw [← e]; exact ha))]
      exact hm a (List.mem_cons_of_mem _ ha)
    · rw [h1 a (fun z => ha (List.mem_cons_of_mem _ z)), upd_ne (fun e => ha (by rw [e]; exact List.mem_cons_self))]
    · by_cases e : a = d
      · subst e
        rw [hu] at hw
        cases hw
        exact ⟨o, by rw [h1 a nd1, upd_same]⟩
      · rcases List.mem_cons.mp ha with z | z
        · exact absurd z e
        · exact h2 a z w (by rw [upd_ne e]; exact hw)
theorem Od.cellsN (d : Od) {G : List Addr} {H : Hp} {v : V} (h : d.pr G H v) : ∀ a ∈ G, ∃ o, H a = some o ∧ ¬ Pst o := fun a ha => by
  obtain ⟨o, e, m⟩ := d.cells h a ha
  exact ⟨o, e, Mut.npst m⟩
theorem Od.lock (d : Od) {G : List Addr} {H : Hp} {v : V} {Φ : Hp → Prop} (h : d.pr G H v) (nd : G.Nodup) (k : ∀ H', (∀ a, a ∉ G → H' a = H a) → (∀ a o, H a = some o → ∃ u, H' a = some u) → d.pd.pr H' v → Φ H') : tLk G Φ H :=
  tLk_of nd (d.cells h) fun H1 h1 h2 => k H1 h1 (fun a o e => by
    by_cases ha : a ∈ G
    · obtain ⟨q, hq⟩ := h2 a ha o e
      exact ⟨_, hq⟩
    · exact ⟨o, by rw [h1 a ha]; exact e⟩) (d.lockd h h1 h2)
theorem lk_fzs {G : List Addr} {H H1 : Hp} (hm : ∀ a ∈ G, ∃ o, H a = some o ∧ Mut (some o)) (h1 : ∀ a, a ∉ G → H1 a = H a) : Fzs H H1 := fun a o p e => by
  rw [h1 a fun ha => ?_]
  · exact e
  · obtain ⟨u, eu, m⟩ := hm a ha
    rw [e] at eu
    cases eu
    exact Mut.npst m p
theorem one_cells {p : Addr} {G : List Addr} {H : Hp} {u : HO} (eg : G = [p]) (h : H p = some u) (m : Mut (some u)) : ∀ a ∈ G, ∃ o, H a = some o ∧ Mut (some o) := fun a ha => by
  rw [eg] at ha
  rw [List.mem_singleton.mp ha]
  exact ⟨_, h, m⟩
def oL {α : Type} (E : α → Pd) (xs : List α) : Od where
  pr G H v := ∃ p vs, G = [p] ∧ v = .ref p ∧ H p = some (.lst vs) ∧ xs.length ≤ sizeLine ∧ Paired (fun x u => (E x).pr H u) xs vs
  pd := pL E xs
  frame := fun ⟨p, vs, eg, ev, h, z, q⟩ k f => ⟨p, vs, eg, ev, k p (by rw [eg]; exact List.mem_singleton.mpr rfl) _ h, z, paired_mono (fun x _ => (E x).mono f) q⟩
  cells := fun ⟨p, vs, eg, ev, h, z, q⟩ => one_cells eg h trivial
  lockd := fun ⟨p, vs, eg, ev, h, z, q⟩ h1 h2 => by
    obtain ⟨o, ho⟩ := h2 p (by rw [eg]; exact List.mem_singleton.mpr rfl) _ h
    exact ⟨p, o, vs, ev, ho, z, paired_mono (fun x _ => (E x).mono (lk_fzs (one_cells eg h trivial) h1)) q⟩
def oD {α : Type} (E : α → Pd) (xs : List (Str × α)) : Od where
  pr G H v := ∃ p kvs, G = [p] ∧ v = .ref p ∧ H p = some (.dK kvs) ∧ xs.length ≤ sizeLine ∧ Paired (fun (x : Str × α) (u : Key × V) => u.1 = .inr x.1 ∧ (E x.2).pr H u.2) xs kvs
  pd := pD E xs
  frame := fun ⟨p, vs, eg, ev, h, z, q⟩ k f => ⟨p, vs, eg, ev, k p (by rw [eg]; exact List.mem_singleton.mpr rfl) _ h, z, paired_mono (fun x _ q => ⟨q.1, (E x.2).mono f q.2⟩) q⟩
  cells := fun ⟨p, vs, eg, ev, h, z, q⟩ => one_cells eg h trivial
  lockd := fun ⟨p, vs, eg, ev, h, z, q⟩ h1 h2 => by
    obtain ⟨o, ho⟩ := h2 p (by rw [eg]; exact List.mem_singleton.mpr rfl) _ h
    exact ⟨p, o, vs, ev, ho, z, paired_mono (fun x _ q => ⟨q.1, (E x.2).mono (lk_fzs (one_cells eg h trivial) h1) q.2⟩) q⟩
def oDI {α : Type} (E : α → Pd) (xs : List (Int × α)) : Od where
  pr G H v := ∃ p kvs, G = [p] ∧ v = .ref p ∧ H p = some (.dK kvs) ∧ xs.length ≤ sizeLine ∧ Paired (fun (x : Int × α) (u : Key × V) => u.1 = .inl x.1 ∧ (E x.2).pr H u.2) xs kvs
  pd := pDI E xs
  frame := fun ⟨p, vs, eg, ev, h, z, q⟩ k f => ⟨p, vs, eg, ev, k p (by rw [eg]; exact List.mem_singleton.mpr rfl) _ h, z, paired_mono (fun x _ q => ⟨q.1, (E x.2).mono f q.2⟩) q⟩
  cells := fun ⟨p, vs, eg, ev, h, z, q⟩ => one_cells eg h trivial
  lockd := fun ⟨p, vs, eg, ev, h, z, q⟩ h1 h2 => by
    obtain ⟨o, ho⟩ := h2 p (by rw [eg]; exact List.mem_singleton.mpr rfl) _ h
    exact ⟨p, o, vs, ev, ho, z, paired_mono (fun x _ q => ⟨q.1, (E x.2).mono (lk_fzs (one_cells eg h trivial) h1) q.2⟩) q⟩

/-! ### where one stands -/
structure Cell where
  G : List Addr
  v : V
  d : Od
  prm : Bool
structure Fm where
  H0 : Hp
  M : List Addr
abbrev Gm := List (Option Pd)
def cellsOf (Δ : List Cell) : List Addr := Δ.flatMap Cell.G
structure Hk (F : Fm) (Δ : List Cell) (H : Hp) : Prop where
  base : ∀ a o, F.H0 a = some o → a ∉ F.M → H a = some o
  del : ∀ c ∈ Δ, c.d.pr c.G H c.v
  nod : (cellsOf Δ).Nodup
  own : ∀ c ∈ Δ, ∀ a ∈ c.G, F.H0 a = none ∨ (c.prm = true ∧ a ∈ F.M)
  mem : ∀ a ∈ F.M, ∃ o, H a = some o
structure Ok (F : Fm) (Γ : Gm) (Δ : List Cell) (σ : SS) (H : Hp) : Prop where
  hk : Hk F Δ H
  len : σ.length = Γ.length
  gam : ∀ (i : Nat) (p : Pd), Γ[i]? = some (some p) → ∃ v, σ[i]? = some (some v) ∧ p.pr H v
theorem mem_cellsOf {Δ : List Cell} {c : Cell} {a : Addr} (h : c ∈ Δ) (ha : a ∈ c.G) : a ∈ cellsOf Δ := List.mem_flatMap.mpr ⟨c, h, ha⟩
theorem Hk.isC {F : Fm} {Δ : List Cell} {H : Hp} (k : Hk F Δ H) {a : Addr} (h : a ∈ cellsOf Δ) : ∃ o, H a = some o ∧ ¬ Pst o := by
  obtain ⟨c, hc, ha⟩ := List.mem_flatMap.mp h
  exact c.d.cellsN (k.del c hc) a ha
theorem Hk.gr {F : Fm} {Δ : List Cell} {H H' : Hp} (k : Hk F Δ H) (g : Gr H H') : Hk F Δ H' :=
  ⟨fun a o e m => g a o (k.base a o e m), fun c hc => c.d.frame (k.del c hc) (fun a _ o e => g a o e) g.fzs, k.nod, k.own, fun a ha => (k.mem a ha).imp fun o e => g a o e⟩
theorem Ok.gr {F : Fm} {Γ : Gm} {Δ : List Cell} {σ : SS} {H H' : Hp} (k : Ok F Γ Δ σ H) (g : Gr H H') : Ok F Γ Δ σ H' :=
  ⟨k.hk.gr g, k.len, fun i p e => by
    obtain ⟨v, h, q⟩ := k.gam i p e
    exact ⟨v, h, p.mono g.fzs q⟩⟩
/-- what is new now was not there at the start, or is a cell of the caller's -/
theorem Hk.fresh0 {F : Fm} {Δ : List Cell} {H : Hp} (k : Hk F Δ H) {a : Addr} (h : H a = none) : F.H0 a = none := by
  have hm : a ∉ F.M := fun z => by
    obtain ⟨o, e⟩ := k.mem a z
    rw [h] at e; cases e
  cases e : F.H0 a with
  | none => rfl
  | some o => rw [k.base a o e hm] at h; cases h
/-- a new cell -/
theorem Hk.add {F : Fm} {Δ : List Cell} {H H' : Hp} (k : Hk F Δ H) (g : Gr H H') {G : List Addr} {v : V} {d : Od} (nd : G.Nodup) (new : ∀ a ∈ G, H a = none) (h : d.pr G H' v) : Hk F (⟨G, v, d, false⟩ :: Δ) H' := by
  have k' := k.gr g
  refine ⟨k'.base, fun c hc => ?_, ?_, fun c hc a ha => ?_, k'.mem⟩
  · rcases List.mem_cons.mp hc with e | hc
    · subst e; exact h
    · exact k'.del c hc
  · show (List.flatMap Cell.G (_ :: Δ)).Nodup
    rw [List.flatMap_cons]
    refine List.nodup_append.mpr ⟨nd, k.nod, fun a ha b hb e => ?_⟩
    subst e
    obtain ⟨o, e, _⟩ := k.isC hb
    rw [new a ha] at e
    cases e
  · rcases List.mem_cons.mp hc with e | hc
    · subst e; exact .inl (k.fresh0 (new a ha))
    · exact k'.own c hc a ha
end L3
end
section
set_option Elab.async false
set_option linter.all false
set_option maxRecDepth 100000
set_option maxHeartbeats 4000000
set_option autoImplicit true
namespace L3
open PySem PySem.Spec PyProof.Rows L2

/-! ### mirrors -/
def grd {γ : Type} (c : Prop) [Decidable c] (x : Option γ) : Option γ := if c then x else none
theorem grd_some {γ : Type} {c : Prop} [Decidable c] {x : Option γ} {g : γ} (h : grd c x = some g) : c ∧ x = some g := by
  unfold grd at h
  by_cases q : c
  · rw [if_pos q] at h; exact ⟨q, h⟩
  · rw [if_neg q] at h; cases h
theorem bind_some {α γ : Type} {m : Option α} {k : α → Option γ} {g : γ} (h : m.bind k = some g) : ∃ a, m = some a ∧ k a = some g := by
  cases m with
  | none => cases h
  | some a => exact ⟨a, rfl, h⟩

/-- from one heap to the next: what never changes stands; what is not at W stands -/
structure St (W : List Addr) (H H' : Hp) : Prop where
  fz : Fzs H H'
  kp : ∀ a o, a ∉ W → H a = some o → H' a = some o
  dom : ∀ a o, H a = some o → ∃ u, H' a = some u
theorem St.refl {W : List Addr} (H : Hp) : St W H H := ⟨Fzs.refl H, fun _ _ _ h => h, fun _ o h => ⟨o, h⟩⟩
theorem St.trans {W : List Addr} {H H1 H2 : Hp} (a : St W H H1) (b : St W H1 H2) : St W H H2 := ⟨a.fz.trans b.fz, fun x o n h => b.kp x o n (a.kp x o n h), fun x o h => by
  obtain ⟨u, e⟩ := a.dom x o h
  exact b.dom x u e⟩
theorem St.back {W : List Addr} {H H' : Hp} (s : St W H H') {a : Addr} (h : H' a = none) : H a = none := by
  cases e : H a with
  | none => rfl
  | some o =>
    obtain ⟨u, q⟩ := s.dom a o e
    rw [h] at q; cases q
theorem Gr.st {W : List Addr} {H H' : Hp} (g : Gr H H') : St W H H' := ⟨g.fzs, fun a o _ h => g a o h, fun a o h => ⟨o, g a o h⟩⟩
theorem St.gr {H H' : Hp} (s : St [] H H') : Gr H H' := fun a o h => s.kp a o List.not_mem_nil h
/-! ### judgements -/
abbrev Δs := List Cell
def tE {β γ : Type} (W : List Addr) (F : Fm) (Γ : Gm) (Δ : Δs) (T : Option γ) (k : β → Option γ) (E : β → Pd) (Δ' : β → Δs) : TE := fun σ H Q =>
  Ok F Γ Δ σ H ∧ ∃ g, T = some g ∧ ∀ b v H', k b = some g → St W H H' → Ok F Γ (Δ' b) σ H' → (E b).pr H' v → Q v H'
def tO {β γ : Type} (W : List Addr) (F : Fm) (Γ : Gm) (Δ : Δs) (T : Option γ) (k : β → Option γ) (D : β → Od) (Δ' : β → Δs) : TE := fun σ H Q =>
  Ok F Γ Δ σ H ∧ ∃ g, T = some g ∧ ∀ b v G H', k b = some g → St W H H' → (∀ a ∈ G, H a = none) → Ok F Γ (⟨G, v, D b, false⟩ :: Δ' b) σ H' → Q v H'
def tAr {β γ : Type} (W : List Addr) (F : Fm) (Γ : Gm) (Δ : Δs) (T : Option γ) (k : β → Option γ) (Es : β → List Pd) (Δ' : β → Δs) : TA := fun σ H Q =>
  Ok F Γ Δ σ H ∧ ∃ g, T = some g ∧ ∀ b vs H', k b = some g → St W H H' → Ok F Γ (Δ' b) σ H' → Paired (fun p v => Pd.pr p H' v) (Es b) vs → Q vs H'
def tTs {β γ : Type} (W : List Addr) (F : Fm) (Γ : Gm) (Δ : Δs) (T : Option γ) (k : β → Option γ) (c : β → Bool) (Δ' : β → Δs) : TT := fun σ H Q =>
  Ok F Γ Δ σ H ∧ ∃ g, T = some g ∧ ∀ b H', k b = some g → St W H H' → Ok F Γ (Δ' b) σ H' → Q (c b) H'
/-- what the mirror's end says of a block's end -/
structure Fn (γ : Type) where
  fin : Hp → γ → Ends → Prop
  mono : ∀ {H H' : Hp} {g : γ} {D : Ends}, fin H g D → Fzs H H' → fin H' g D
def tS {γ : Type} (F : Fm) (Γ : Gm) (Δ : Δs) (N : Fn γ) (T : Option γ) : TS := fun D σ H => Ok F Γ Δ σ H ∧ ∃ g, T = some g ∧ N.fin H g D

section
variable {X : Cx}
theorem _root_.L2.PE.wk {e : Expr} {t t' : TE} (h : PE X e t) (w : ∀ σ H Q, t' σ H Q → t σ H Q) : PE X e t' := ⟨fun pins s σ H Q I q => h.run pins s σ H Q I (w σ H Q q)⟩
theorem _root_.L2.PA.wk {e : List Expr} {t t' : TA} (h : PA X e t) (w : ∀ σ H Q, t' σ H Q → t σ H Q) : PA X e t' := ⟨fun p pins s σ H Q I q => h.run p pins s σ H Q I (w σ H Q q)⟩
theorem _root_.L2.PT.wk {e : Expr} {t t' : TT} (h : PT X e t) (w : ∀ σ H Q, t' σ H Q → t σ H Q) : PT X e t' := ⟨fun pins s σ H Q I q => h.run pins s σ H Q I (w σ H Q q)⟩
theorem _root_.L2.PW.wk {e : Expr} {t t' : TT} (h : PW X e t) (w : ∀ σ H Q, t' σ H Q → t σ H Q) : PW X e t' := ⟨fun wh pins s σ H Q I q => h.run wh pins s σ H Q I (w σ H Q q)⟩
theorem _root_.L2.PSs.wk {e : List Stmt} {t t' : TS} (h : PSs X e t) (w : ∀ D σ H, t' D σ H → t D σ H) : PSs X e t' := ⟨fun pins s σ H D I q => h.run pins s σ H D I (w D σ H q)⟩
theorem _root_.L2.PS.wk {e : Stmt} {t t' : TS} (h : PS X e t) (w : ∀ D σ H, t' D σ H → t D σ H) : PS X e t' := ⟨fun pins s σ H D I q => h.run pins s σ H D I (w D σ H q)⟩
theorem pe_ex {β : Type} {e : Expr} {t : β → TE} (h : ∀ b, PE X e (t b)) : PE X e (fun σ H Q => ∃ b, t b σ H Q) := ⟨fun pins s σ H Q I ⟨b, q⟩ => (h b).run pins s σ H Q I q⟩
theorem pa_ex {β : Type} {e : List Expr} {t : β → TA} (h : ∀ b, PA X e (t b)) : PA X e (fun σ H Q => ∃ b, t b σ H Q) := ⟨fun p pins s σ H Q I ⟨b, q⟩ => (h b).run p pins s σ H Q I q⟩
theorem pt_ex {β : Type} {e : Expr} {t : β → TT} (h : ∀ b, PT X e (t b)) : PT X e (fun σ H Q => ∃ b, t b σ H Q) := ⟨fun pins s σ H Q I ⟨b, q⟩ => (h b).run pins s σ H Q I q⟩
theorem pw_ex {β : Type} {e : Expr} {t : β → TT} (h : ∀ b, PW X e (t b)) : PW X e (fun σ H Q => ∃ b, t b σ H Q) := ⟨fun wh pins s σ H Q I ⟨b, q⟩ => (h b).run wh pins s σ H Q I q⟩
theorem pss_ex {β : Type} {e : List Stmt} {t : β → TS} (h : ∀ b, PSs X e (t b)) : PSs X e (fun D σ H => ∃ b, t b D σ H) := ⟨fun pins s σ H D I ⟨b, q⟩ => (h b).run pins s σ H D I q⟩

variable {W : List Addr} {F : Fm} {Γ : Gm} {Δ : Δs} {γ : Type}

/-! ### names, constants -/
theorem x_var (i : Nat) {x : Str} {pos : Pos} {p : Pd} {k : Unit → Option γ} (h : Γ[i]? = some (some p) := by rfl) (hN : X.N[i]? = some x := by rfl) (hv : Vis X.env.scope x := by first | exact Or.inl rfl | exact Or.inr (Or.inl rfl) | exact Or.inr (Or.inr rfl))
    (hd : (x == ("__debug__" : Str)) = false := by decide) (hcd : (x == ("__classdict__" : Str)) = false := by decide) : PE X (.Name x pos) (tE W F Γ Δ (k ()) k (fun _ => p) fun _ => Δ) :=
  (pe_var hN hv hd hcd).wk fun σ H Q ⟨ok, g, e, q⟩ => by
    obtain ⟨v, hs, hp⟩ := ok.gam i p h
    exact ⟨v, hs, q () v H e (St.refl H) ok hp⟩
theorem x_c {e : Expr} {v : V} {p : Pd} {k : Unit → Option γ} (he : PE X e (tC v)) (hp : ∀ H, p.pr H v) : PE X e (tE W F Γ Δ (k ()) k (fun _ => p) fun _ => Δ) :=
  he.wk fun σ H Q ⟨ok, g, e, q⟩ => q () v H e (St.refl H) ok (hp H)
theorem x_int {i : Int} {j pos} {k : Unit → Option γ} : PE X (.Constant (.int i) j pos) (tE W F Γ Δ (k ()) k (fun _ => pInt i) fun _ => Δ) := x_c pe_int fun _ => rfl
theorem x_bl {i : Bool} {j pos} {k : Unit → Option γ} : PE X (.Constant (.bool i) j pos) (tE W F Γ Δ (k ()) k (fun _ => pBl i) fun _ => Δ) := x_c pe_bl fun _ => rfl
theorem x_str {i : Str} {j pos} {k : Unit → Option γ} : PE X (.Constant (.str i) j pos) (tE W F Γ Δ (k ()) k (fun _ => pStr i) fun _ => Δ) := x_c pe_str fun _ => rfl
theorem x_non {j pos} {k : Unit → Option γ} : PE X (.Constant .none j pos) (tE W F Γ Δ (k ()) k (fun _ => pNon) fun _ => Δ) := x_c pe_non fun _ => rfl
/-- the value's kind said otherwise -/
theorem x_co {β : Type} {e : Expr} {T : Option γ} {k : β → Option γ} {E : β → Pd} {Δ' : β → Δs} (E' : β → Pd) (he : PE X e (tE W F Γ Δ T k E Δ')) (h : ∀ b H v, (E b).pr H v → (E' b).pr H v) : PE X e (tE W F Γ Δ T k E' Δ') :=
  he.wk fun σ H Q ⟨ok, g, e, q⟩ => ⟨ok, g, e, fun b v H' kb f ok' hv => q b v H' kb f ok' (h b H' v hv)⟩

/-! ### two operands -/
def Bin2 (X : Cx) (e a b : Expr) (r : R2) : Prop := ∀ ta tb, PE X a ta → PE X b tb → PE X e (tOp r ta tb)
theorem b_op {op : Operator} {r : R2} {a b : Expr} {pos : Pos} (ho : OpR X (binaryOp op) r) : Bin2 X (.BinOp a op b pos) a b r := fun _ _ ha hb => pe_op ho ha hb
theorem b_cmp {op : CmpOp} {r : R2} {a b : Expr} {pos : Pos} (ho : OpR X (compareOp op) r) (hm : behindInMarks op b = false) : Bin2 X (.Compare a [op] [b] pos) a b r := fun _ _ ha hb => pe_cmpR ho ha hb hm
theorem b_ix {r : R2} {a b : Expr} {pos : Pos} (ho : IxR X r) (hs : PlainIx b) : Bin2 X (.Subscript a b pos) a b r := fun _ _ ha hb => pe_ix ho ha hb hs
section
variable {e a b : Expr} {r : R2} {β1 β2 : Type} {T : Option γ} {k1 : β1 → Option γ} {k2 : β1 → β2 → Option γ} {E1 : β1 → Pd} {E2 : β1 → β2 → Pd} {Δ1 : β1 → Δs} {Δ2 : β1 → β2 → Δs}
/-- the common part -/
theorem x2_core {t' : TE} (h2 : Bin2 X e a b r) (ha : PE X a (tE W F Γ Δ T k1 E1 Δ1)) (hb : ∀ b1, PE X b (tE W F Γ (Δ1 b1) (k1 b1) (k2 b1) (E2 b1) (Δ2 b1)))
    (hw : ∀ σ H Q, t' σ H Q → Ok F Γ Δ σ H ∧ ∃ g, T = some g ∧ ∀ b1 b2 v w H2, k2 b1 b2 = some g → St W H H2 → Ok F Γ (Δ2 b1 b2) σ H2 → (E1 b1).pr H2 v → (E2 b1 b2).pr H2 w → r v w H2 Q) : PE X e t' :=
  (h2 _ _ ha (pe_ex hb)).wk fun σ H Q h => by
    obtain ⟨ok, g, e, q⟩ := hw σ H Q h
    exact ⟨ok, g, e, fun b1 v H1 kb f1 ok1 hv => ⟨b1, ok1, g, kb, fun b2 w H2 kb2 f2 ok2 hw => q b1 b2 v w H2 kb2 (f1.trans f2) ok2 ((E1 b1).mono f2.fz hv) hw⟩⟩
/-- the operation always goes, and lays nothing -/
theorem x2t {E : β1 × β2 → Pd} {k : β1 × β2 → Option γ} (h2 : Bin2 X e a b r) (ha : PE X a (tE W F Γ Δ T k1 E1 Δ1)) (hb : ∀ b1, PE X b (tE W F Γ (Δ1 b1) (k1 b1) (fun b2 => k (b1, b2)) (E2 b1) (Δ2 b1)))
    (hv : ∀ b1 b2 σ v w H Q, Ok F Γ (Δ2 b1 b2) σ H → (E1 b1).pr H v → (E2 b1 b2).pr H w → (∀ u, (E (b1, b2)).pr H u → Q u H) → r v w H Q) : PE X e (tE W F Γ Δ T k E fun b => Δ2 b.1 b.2) :=
  x2_core h2 ha hb fun σ H Q ⟨ok, g, e, q⟩ => ⟨ok, g, e, fun b1 b2 v w H2 kb f ok2 hv1 hv2 => hv b1 b2 σ v w H2 Q ok2 hv1 hv2 fun u hu => q (b1, b2) u H2 kb f ok2 hu⟩
/-- .. under a condition -/
theorem x2g {E : β1 × β2 → Pd} {k : β1 × β2 → Option γ} {c : β1 → β2 → Prop} [∀ b1 b2, Decidable (c b1 b2)] (h2 : Bin2 X e a b r) (ha : PE X a (tE W F Γ Δ T k1 E1 Δ1)) (hb : ∀ b1, PE X b (tE W F Γ (Δ1 b1) (k1 b1) (fun b2 => grd (c b1 b2) (k (b1, b2))) (E2 b1) (Δ2 b1)))
    (hv : ∀ b1 b2 σ v w H Q, Ok F Γ (Δ2 b1 b2) σ H → c b1 b2 → (E1 b1).pr H v → (E2 b1 b2).pr H w → (∀ u, (E (b1, b2)).pr H u → Q u H) → r v w H Q) : PE X e (tE W F Γ Δ T k E fun b => Δ2 b.1 b.2) :=
  x2_core h2 ha hb fun σ H Q ⟨ok, g, e, q⟩ => ⟨ok, g, e, fun b1 b2 v w H2 kb f ok2 hv1 hv2 => hv b1 b2 σ v w H2 Q ok2 (grd_some kb).1 hv1 hv2 fun u hu => q (b1, b2) u H2 (grd_some kb).2 f ok2 hu⟩
/-- .. with what is found -/
theorem x2p {β3 : Type} {E : (β1 × β2) × β3 → Pd} {k : (β1 × β2) × β3 → Option γ} {m : β1 → β2 → Option β3} (h2 : Bin2 X e a b r) (ha : PE X a (tE W F Γ Δ T k1 E1 Δ1))
    (hb : ∀ b1, PE X b (tE W F Γ (Δ1 b1) (k1 b1) (fun b2 => (m b1 b2).bind fun b3 => k ((b1, b2), b3)) (E2 b1) (Δ2 b1)))
    (hv : ∀ b1 b2 b3 σ v w H Q, Ok F Γ (Δ2 b1 b2) σ H → m b1 b2 = some b3 → (E1 b1).pr H v → (E2 b1 b2).pr H w → (∀ u, (E ((b1, b2), b3)).pr H u → Q u H) → r v w H Q) : PE X e (tE W F Γ Δ T k E fun b => Δ2 b.1.1 b.1.2) :=
  x2_core h2 ha hb fun σ H Q ⟨ok, g, e, q⟩ => ⟨ok, g, e, fun b1 b2 v w H2 kb f ok2 hv1 hv2 => by
    obtain ⟨b3, e3, kb3⟩ := bind_some kb
    exact hv b1 b2 b3 σ v w H2 Q ok2 e3 hv1 hv2 fun u hu => q ((b1, b2), b3) u H2 kb3 f ok2 hu⟩
end
/-! ### comparisons as tests -/
def Bin2T (X : Cx) (e a b : Expr) (r : R2) : Prop := ∀ ta tb, PE X a ta → PE X b tb → PT X e (tTest (tOp r ta tb))
theorem bt_cmp {op : CmpOp} {r : R2} {a b : Expr} {pos : Pos} (ho : OpR X (compareOp op) r) (hm : behindInMarks op b = false) : Bin2T X (.Compare a [op] [b] pos) a b r := fun _ _ ha hb => pt_cmpR ho ha hb hm
section
variable {e a b : Expr} {r : R2} {β1 β2 : Type} {T : Option γ} {k1 : β1 → Option γ} {k2 : β1 → β2 → Option γ} {E1 : β1 → Pd} {E2 : β1 → β2 → Pd} {Δ1 : β1 → Δs} {Δ2 : β1 → β2 → Δs}
theorem t2_core {t' : TT} (h2 : Bin2T X e a b r) (ha : PE X a (tE W F Γ Δ T k1 E1 Δ1)) (hb : ∀ b1, PE X b (tE W F Γ (Δ1 b1) (k1 b1) (k2 b1) (E2 b1) (Δ2 b1)))
    (hw : ∀ σ H Q, t' σ H Q → Ok F Γ Δ σ H ∧ ∃ g, T = some g ∧ ∀ b1 b2 v w H2, k2 b1 b2 = some g → St W H H2 → Ok F Γ (Δ2 b1 b2) σ H2 → (E1 b1).pr H2 v → (E2 b1 b2).pr H2 w → r v w H2 (fun x H' => ∃ k, x = .bl k ∧ Q k H')) : PT X e t' :=
  (h2 _ _ ha (pe_ex hb)).wk fun σ H Q h => by
    obtain ⟨ok, g, e, q⟩ := hw σ H Q h
    exact ⟨ok, g, e, fun b1 v H1 kb f1 ok1 hv => ⟨b1, ok1, g, kb, fun b2 w H2 kb2 f2 ok2 hw => q b1 b2 v w H2 kb2 (f1.trans f2) ok2 ((E1 b1).mono f2.fz hv) hw⟩⟩
theorem t2t {c : β1 × β2 → Bool} {k : β1 × β2 → Option γ} (h2 : Bin2T X e a b r) (ha : PE X a (tE W F Γ Δ T k1 E1 Δ1)) (hb : ∀ b1, PE X b (tE W F Γ (Δ1 b1) (k1 b1) (fun b2 => k (b1, b2)) (E2 b1) (Δ2 b1)))
    (hv : ∀ b1 b2 σ v w H Q, Ok F Γ (Δ2 b1 b2) σ H → (E1 b1).pr H v → (E2 b1 b2).pr H w → (∀ u, (pBl (c (b1, b2))).pr H u → Q u H) → r v w H Q) : PT X e (tTs W F Γ Δ T k c fun b => Δ2 b.1 b.2) :=
  t2_core h2 ha hb fun σ H Q ⟨ok, g, e, q⟩ => ⟨ok, g, e, fun b1 b2 v w H2 kb f ok2 hv1 hv2 => hv b1 b2 σ v w H2 _ ok2 hv1 hv2 fun u hu => ⟨c (b1, b2), hu, q (b1, b2) H2 kb f ok2⟩⟩
end
/-! ### ints -/
section
variable {a b : Expr} {pos : Pos} {β1 β2 : Type} {T : Option γ} {k1 : β1 → Option γ} {k : β1 × β2 → Option γ} {Δ1 : β1 → Δs} {Δ2 : β1 → β2 → Δs} {i : β1 → Int} {j : β1 → β2 → Int}
theorem x_add (ha : PE X a (tE W F Γ Δ T k1 (fun b => pInt (i b)) Δ1)) (hb : ∀ b1, PE X b (tE W F Γ (Δ1 b1) (k1 b1) (fun b2 => k (b1, b2)) (fun b => pInt (j b1 b)) (Δ2 b1))) :
    PE X (.BinOp a .Add b pos) (tE W F Γ Δ T k (fun b => pInt (i b.1 + j b.1 b.2)) fun b => Δ2 b.1 b.2) :=
  x2t (b_op op_add) ha hb fun b1 b2 _ v w H Q _ hv hw q => ⟨i b1, j b1 b2, hv, hw, q _ rfl⟩
theorem x_sub (ha : PE X a (tE W F Γ Δ T k1 (fun b => pInt (i b)) Δ1)) (hb : ∀ b1, PE X b (tE W F Γ (Δ1 b1) (k1 b1) (fun b2 => k (b1, b2)) (fun b => pInt (j b1 b)) (Δ2 b1))) :
    PE X (.BinOp a .Sub b pos) (tE W F Γ Δ T k (fun b => pInt (i b.1 - j b.1 b.2)) fun b => Δ2 b.1 b.2) :=
  x2t (b_op op_sub) ha hb fun b1 b2 _ v w H Q _ hv hw q => ⟨i b1, j b1 b2, hv, hw, q _ rfl⟩
/-- within 64 bits -/
def sm (i : Int) : Bool := decide (-(2 ^ 64) < i) && decide (i < 2 ^ 64)
theorem sm_ok {i : Int} (h : sm i = true) : -(2 ^ 64) < i ∧ i < 2 ^ 64 := by
  obtain ⟨a, b⟩ := Bool.and_eq_true_iff.mp h
  exact ⟨of_decide_eq_true a, of_decide_eq_true b⟩
theorem x_mul (ha : PE X a (tE W F Γ Δ T k1 (fun b => pInt (i b)) Δ1)) (hb : ∀ b1, PE X b (tE W F Γ (Δ1 b1) (k1 b1) (fun b2 => grd ((sm (i b1) || sm (j b1 b2)) = true) (k (b1, b2))) (fun b => pInt (j b1 b)) (Δ2 b1))) :
    PE X (.BinOp a .Mult b pos) (tE W F Γ Δ T k (fun b => pInt (i b.1 * j b.1 b.2)) fun b => Δ2 b.1 b.2) :=
  x2g (b_op op_mul) ha hb fun b1 b2 _ v w H Q _ c hv hw q => ⟨i b1, j b1 b2, hv, hw, by
    rcases Bool.or_eq_true_iff.mp c with h | h
    · exact .inl (sm_ok h)
    · exact .inr (sm_ok h), q _ rfl⟩
theorem x_mod (ha : PE X a (tE W F Γ Δ T k1 (fun b => pInt (i b)) Δ1)) (hb : ∀ b1, PE X b (tE W F Γ (Δ1 b1) (k1 b1) (fun b2 => grd (0 < j b1 b2) (k (b1, b2))) (fun b => pInt (j b1 b)) (Δ2 b1))) :
    PE X (.BinOp a .Mod b pos) (tE W F Γ Δ T k (fun b => pInt (i b.1 % j b.1 b.2)) fun b => Δ2 b.1 b.2) :=
  x2g (b_op op_mod) ha hb fun b1 b2 _ v w H Q _ c hv hw q => ⟨i b1, j b1 b2, hv, hw, c, q _ rfl⟩
def dv (j : Int) : Bool := decide (0 < j) && decide (j < 1073741824)
theorem x_fdiv (ha : PE X a (tE W F Γ Δ T k1 (fun b => pInt (i b)) Δ1)) (hb : ∀ b1, PE X b (tE W F Γ (Δ1 b1) (k1 b1) (fun b2 => grd (dv (j b1 b2) = true) (k (b1, b2))) (fun b => pInt (j b1 b)) (Δ2 b1))) :
    PE X (.BinOp a .FloorDiv b pos) (tE W F Γ Δ T k (fun b => pInt (i b.1 / j b.1 b.2)) fun b => Δ2 b.1 b.2) :=
  x2g (b_op op_fdiv) ha hb fun b1 b2 _ v w H Q _ c hv hw q => ⟨i b1, j b1 b2, hv, hw, by
    obtain ⟨h1, h2⟩ := Bool.and_eq_true_iff.mp c
    exact ⟨of_decide_eq_true h1, of_decide_eq_true h2⟩, q _ rfl⟩
theorem x_pow (ha : PE X a (tE W F Γ Δ T k1 (fun b => pInt (i b)) Δ1)) (hb : ∀ b1, PE X b (tE W F Γ (Δ1 b1) (k1 b1) (fun b2 => k (b1, b2)) (fun b => pInt (j b1 b)) (Δ2 b1))) (hc : ∀ b1 b2, 0 ≤ j b1 b2 ∧ j b1 b2 ≤ 1000000 ∧ (i b1).natAbs < 2 ^ 64) :
    PE X (.BinOp a .Pow b pos) (tE W F Γ Δ T k (fun b => pInt (i b.1 ^ (j b.1 b.2).toNat)) fun b => Δ2 b.1 b.2) :=
  x2t (b_op op_pow) ha hb fun b1 b2 _ v w H Q _ hv hw q => ⟨i b1, j b1 b2, hv, hw, hc b1 b2, q _ rfl⟩
theorem x_lt (ha : PE X a (tE W F Γ Δ T k1 (fun b => pInt (i b)) Δ1)) (hb : ∀ b1, PE X b (tE W F Γ (Δ1 b1) (k1 b1) (fun b2 => k (b1, b2)) (fun b => pInt (j b1 b)) (Δ2 b1))) :
    PE X (.Compare a [.Lt] [b] pos) (tE W F Γ Δ T k (fun b => pBl (decide (i b.1 < j b.1 b.2))) fun b => Δ2 b.1 b.2) :=
  x2t (b_cmp op_lt (nomark _)) ha hb fun b1 b2 _ v w H Q _ hv hw q => ⟨i b1, j b1 b2, hv, hw, q _ rfl⟩
theorem x_le (ha : PE X a (tE W F Γ Δ T k1 (fun b => pInt (i b)) Δ1)) (hb : ∀ b1, PE X b (tE W F Γ (Δ1 b1) (k1 b1) (fun b2 => k (b1, b2)) (fun b => pInt (j b1 b)) (Δ2 b1))) :
    PE X (.Compare a [.LtE] [b] pos) (tE W F Γ Δ T k (fun b => pBl (decide (i b.1 ≤ j b.1 b.2))) fun b => Δ2 b.1 b.2) :=
  x2t (b_cmp op_le (nomark _)) ha hb fun b1 b2 _ v w H Q _ hv hw q => ⟨i b1, j b1 b2, hv, hw, q _ rfl⟩
theorem x_gt (ha : PE X a (tE W F Γ Δ T k1 (fun b => pInt (i b)) Δ1)) (hb : ∀ b1, PE X b (tE W F Γ (Δ1 b1) (k1 b1) (fun b2 => k (b1, b2)) (fun b => pInt (j b1 b)) (Δ2 b1))) :
    PE X (.Compare a [.Gt] [b] pos) (tE W F Γ Δ T k (fun b => pBl (decide (j b.1 b.2 < i b.1))) fun b => Δ2 b.1 b.2) :=
  x2t (b_cmp op_gt (nomark _)) ha hb fun b1 b2 _ v w H Q _ hv hw q => ⟨i b1, j b1 b2, hv, hw, q _ rfl⟩
theorem x_ge (ha : PE X a (tE W F Γ Δ T k1 (fun b => pInt (i b)) Δ1)) (hb : ∀ b1, PE X b (tE W F Γ (Δ1 b1) (k1 b1) (fun b2 => k (b1, b2)) (fun b => pInt (j b1 b)) (Δ2 b1))) :
    PE X (.Compare a [.GtE] [b] pos) (tE W F Γ Δ T k (fun b => pBl (decide (j b.1 b.2 ≤ i b.1))) fun b => Δ2 b.1 b.2) :=
  x2t (b_cmp op_ge (nomark _)) ha hb fun b1 b2 _ v w H Q _ hv hw q => ⟨i b1, j b1 b2, hv, hw, q _ rfl⟩
theorem x_eqI (ha : PE X a (tE W F Γ Δ T k1 (fun b => pInt (i b)) Δ1)) (hb : ∀ b1, PE X b (tE W F Γ (Δ1 b1) (k1 b1) (fun b2 => k (b1, b2)) (fun b => pInt (j b1 b)) (Δ2 b1))) :
    PE X (.Compare a [.Eq] [b] pos) (tE W F Γ Δ T k (fun b => pBl (decide (i b.1 = j b.1 b.2))) fun b => Δ2 b.1 b.2) :=
  x2t (b_cmp op_eq (nomark _)) ha hb fun b1 b2 _ v w H Q _ hv hw q => by
    cases hv; cases hw
    refine ⟨rfl, q _ ?_⟩
    show V.bl _ = V.bl _
    congr 1
    by_cases z : i b1 = j b1 b2
    · rw [z]; simp
    · rw [decide_eq_false z, decide_eq_false fun y => z (V.int.inj y)]
theorem x_neI (ha : PE X a (tE W F Γ Δ T k1 (fun b => pInt (i b)) Δ1)) (hb : ∀ b1, PE X b (tE W F Γ (Δ1 b1) (k1 b1) (fun b2 => k (b1, b2)) (fun b => pInt (j b1 b)) (Δ2 b1))) :
    PE X (.Compare a [.NotEq] [b] pos) (tE W F Γ Δ T k (fun b => pBl (!decide (i b.1 = j b.1 b.2))) fun b => Δ2 b.1 b.2) :=
  x2t (b_cmp op_ne (nomark _)) ha hb fun b1 b2 _ v w H Q _ hv hw q => by
    cases hv; cases hw
    refine ⟨rfl, q _ ?_⟩
    show V.bl _ = V.bl _
    congr 1
    by_cases z : i b1 = j b1 b2
    · rw [z]; simp
    · rw [decide_eq_false z, decide_eq_false fun y => z (V.int.inj y)]
theorem t_lt (ha : PE X a (tE W F Γ Δ T k1 (fun b => pInt (i b)) Δ1)) (hb : ∀ b1, PE X b (tE W F Γ (Δ1 b1) (k1 b1) (fun b2 => k (b1, b2)) (fun b => pInt (j b1 b)) (Δ2 b1))) :
    PT X (.Compare a [.Lt] [b] pos) (tTs W F Γ Δ T k (fun b => decide (i b.1 < j b.1 b.2)) fun b => Δ2 b.1 b.2) :=
  t2t (bt_cmp op_lt (nomark _)) ha hb fun b1 b2 _ v w H Q _ hv hw q => ⟨i b1, j b1 b2, hv, hw, q _ rfl⟩
theorem t_le (ha : PE X a (tE W F Γ Δ T k1 (fun b => pInt (i b)) Δ1)) (hb : ∀ b1, PE X b (tE W F Γ (Δ1 b1) (k1 b1) (fun b2 => k (b1, b2)) (fun b => pInt (j b1 b)) (Δ2 b1))) :
    PT X (.Compare a [.LtE] [b] pos) (tTs W F Γ Δ T k (fun b => decide (i b.1 ≤ j b.1 b.2)) fun b => Δ2 b.1 b.2) :=
  t2t (bt_cmp op_le (nomark _)) ha hb fun b1 b2 _ v w H Q _ hv hw q => ⟨i b1, j b1 b2, hv, hw, q _ rfl⟩
theorem t_gt (ha : PE X a (tE W F Γ Δ T k1 (fun b => pInt (i b)) Δ1)) (hb : ∀ b1, PE X b (tE W F Γ (Δ1 b1) (k1 b1) (fun b2 => k (b1, b2)) (fun b => pInt (j b1 b)) (Δ2 b1))) :
    PT X (.Compare a [.Gt] [b] pos) (tTs W F Γ Δ T k (fun b => decide (j b.1 b.2 < i b.1)) fun b => Δ2 b.1 b.2) :=
  t2t (bt_cmp op_gt (nomark _)) ha hb fun b1 b2 _ v w H Q _ hv hw q => ⟨i b1, j b1 b2, hv, hw, q _ rfl⟩
theorem t_ge (ha : PE X a (tE W F Γ Δ T k1 (fun b => pInt (i b)) Δ1)) (hb : ∀ b1, PE X b (tE W F Γ (Δ1 b1) (k1 b1) (fun b2 => k (b1, b2)) (fun b => pInt (j b1 b)) (Δ2 b1))) :
    PT X (.Compare a [.GtE] [b] pos) (tTs W F Γ Δ T k (fun b => decide (j b.1 b.2 ≤ i b.1)) fun b => Δ2 b.1 b.2) :=
  t2t (bt_cmp op_ge (nomark _)) ha hb fun b1 b2 _ v w H Q _ hv hw q => ⟨i b1, j b1 b2, hv, hw, q _ rfl⟩
theorem t_eqI (ha : PE X a (tE W F Γ Δ T k1 (fun b => pInt (i b)) Δ1)) (hb : ∀ b1, PE X b (tE W F Γ (Δ1 b1) (k1 b1) (fun b2 => k (b1, b2)) (fun b => pInt (j b1 b)) (Δ2 b1))) :
    PT X (.Compare a [.Eq] [b] pos) (tTs W F Γ Δ T k (fun b => decide (i b.1 = j b.1 b.2)) fun b => Δ2 b.1 b.2) :=
  t2t (bt_cmp op_eq (nomark _)) ha hb fun b1 b2 _ v w H Q _ hv hw q => by
    cases hv; cases hw
    refine ⟨rfl, q _ ?_⟩
    show V.bl _ = V.bl _
    congr 1
    by_cases z : i b1 = j b1 b2
    · rw [z]; simp
    · rw [decide_eq_false z, decide_eq_false fun y => z (V.int.inj y)]
theorem t_neI (ha : PE X a (tE W F Γ Δ T k1 (fun b => pInt (i b)) Δ1)) (hb : ∀ b1, PE X b (tE W F Γ (Δ1 b1) (k1 b1) (fun b2 => k (b1, b2)) (fun b => pInt (j b1 b)) (Δ2 b1))) :
    PT X (.Compare a [.NotEq] [b] pos) (tTs W F Γ Δ T k (fun b => !decide (i b.1 = j b.1 b.2)) fun b => Δ2 b.1 b.2) :=
  t2t (bt_cmp op_ne (nomark _)) ha hb fun b1 b2 _ v w H Q _ hv hw q => by
    cases hv; cases hw
    refine ⟨rfl, q _ ?_⟩
    show V.bl _ = V.bl _
    congr 1
    by_cases z : i b1 = j b1 b2
    · rw [z]; simp
    · rw [decide_eq_false z, decide_eq_false fun y => z (V.int.inj y)]
end
end
end L3
end
section
set_option Elab.async false
set_option linter.all false
set_option maxRecDepth 100000
set_option maxHeartbeats 4000000
namespace L3
open PySem PySem.Spec PyProof.Rows L2

/-! ### cells -/
theorem cell_mem {Δ : Δs} {j : Nat} {c : Cell} (h : Δ[j]? = some c) : c ∈ Δ := List.mem_of_getElem? h
theorem hw_of {Δ : Δs} {G : List Addr} {v : V} {d : Od} {prm : Bool} (j : Nat) (h : Δ[j]? = some ⟨G, v, d, prm⟩ := by rfl) : ∀ a ∈ G, a ∈ cellsOf Δ := fun a ha => mem_cellsOf (cell_mem h) ha
theorem flat_set {c c' : Cell} (e : c'.G = c.G) : ∀ {Δ : Δs} {j : Nat}, Δ[j]? = some c → cellsOf (Δ.set j c') = cellsOf Δ
  | [], _, h => by simp at h
  | d :: Δ, 0, h => by
    have q : d = c := by simpa using h
    show List.flatMap Cell.G (c' :: Δ) = List.flatMap Cell.G (d :: Δ)
    rw [List.flatMap_cons, List.flatMap_cons, e, q]
  | d :: Δ, j + 1, h => by
    have q : Δ[j]? = some c := by simpa using h
    show List.flatMap Cell.G (d :: Δ.set j c') = List.flatMap Cell.G (d :: Δ)
    rw [List.flatMap_cons, List.flatMap_cons]
    exact congrArg _ (flat_set e q)
/-- two cells that stand at unlike places have nothing in common -/
theorem cell_apart : ∀ {Δ : Δs} {i j : Nat} {c d : Cell}, (cellsOf Δ).Nodup → Δ[i]? = some c → Δ[j]? = some d → i ≠ j → ∀ a, a ∈ c.G → a ∈ d.G → False
  | [], _, _, _, _, _, h, _, _, _, _, _ => by simp at h
  | e :: Δ, 0, 0, _, _, _, _, _, n, _, _, _ => n rfl
  | e :: Δ, 0, j + 1, c, d, nd, hc, hd, _, a, ha, hb => by
    have qc : e = c := by simpa using hc
    have qd : Δ[j]? = some d := by simpa using hd
    have nd2 : (e.G ++ cellsOf Δ).Nodup := by
      have := nd
      unfold cellsOf at this
      rw [List.flatMap_cons] at this
      exact this
    rw [← qc] at ha
    exact (List.nodup_append.mp nd2).2.2 a ha a (mem_cellsOf (cell_mem qd) hb) rfl
  | e :: Δ, i + 1, 0, c, d, nd, hc, hd, _, a, ha, hb => by
    have qd : e = d := by simpa using hd
    have qc : Δ[i]? = some c := by simpa using hc
    have nd2 : (e.G ++ cellsOf Δ).Nodup := by
      have := nd
      unfold cellsOf at this
      rw [List.flatMap_cons] at this
      exact this
    rw [← qd] at hb
    exact (List.nodup_append.mp nd2).2.2 a hb a (mem_cellsOf (cell_mem qc) ha) rfl
  | e :: Δ, i + 1, j + 1, c, d, nd, hc, hd, n, a, ha, hb => by
    have qd : Δ[j]? = some d := by simpa using hd
    have qc : Δ[i]? = some c := by simpa using hc
    have nd2 : (e.G ++ cellsOf Δ).Nodup := by
      have := nd
      unfold cellsOf at this
      rw [List.flatMap_cons] at this
      exact this
    exact cell_apart (List.nodup_append.mp nd2).2.1 qc qd (fun z => n (by rw [z])) a ha hb
/-- the cell at j has changed, nothing else -/
theorem Hk.turn {F : Fm} {Δ : Δs} {H H' : Hp} {j : Nat} {c : Cell} {d' : Od} (k : Hk F Δ H) (hj : Δ[j]? = some c) (kp : ∀ a o, a ∉ c.G → H a = some o → H' a = some o) (new : d'.pr c.G H' c.v) : Hk F (Δ.set j { c with d := d' }) H' ∧ Fzs H H' := by
  have fz : Fzs H H' := fun a o p e => kp a o (fun ha => by
    obtain ⟨u, eu, nu⟩ := c.d.cellsN (k.del c (cell_mem hj)) a ha
    rw [e] at eu
    cases eu
    exact nu p) e
  have dom : ∀ a o, H a = some o → ∃ u, H' a = some u := fun a o e => by
    by_cases ha : a ∈ c.G
    · obtain ⟨u, eu, _⟩ := d'.cellsN new a ha
      exact ⟨u, eu⟩
    · exact ⟨o, kp a o ha e⟩
  refine ⟨⟨fun a o e m => ?_, fun x hx => ?_, ?_, fun x hx a ha => ?_, fun a ha => ?_⟩, fz⟩
  · refine kp a o (fun ha => ?_) (k.base a o e m)
    rcases k.own c (cell_mem hj) a ha with z | ⟨_, z⟩
    · rw [e] at z; cases z
    · exact m z
  · obtain ⟨i, hi⟩ := List.getElem?_of_mem hx
    by_cases e : i = j
    · subst e
      rw [List.getElem?_set_self (List.getElem?_eq_some_iff.mp hj).1] at hi
      cases hi
      exact new
    · rw [List.getElem?_set_ne (fun z => e z.symm)] at hi
      exact x.d.frame (k.del x (cell_mem hi)) (fun a ha o q => kp a o (fun hc => cell_apart k.nod hi hj e a ha hc) q) fz
  · rw [flat_set (c := c) (c' := { c with d := d' }) rfl hj]; exact k.nod
  · obtain ⟨i, hi⟩ := List.getElem?_of_mem hx
    by_cases e : i = j
    · subst e
      rw [List.getElem?_set_self (List.getElem?_eq_some_iff.mp hj).1] at hi
      cases hi
      exact k.own c (cell_mem hj) a ha
    · rw [List.getElem?_set_ne (fun z => e z.symm)] at hi
      exact k.own x (cell_mem hi) a ha
  · obtain ⟨o, e⟩ := k.mem a ha
    exact dom a o e
theorem Ok.turn {F : Fm} {Γ : Gm} {Δ : Δs} {σ : SS} {H H' : Hp} {j : Nat} {c : Cell} {d' : Od} (k : Ok F Γ Δ σ H) (hj : Δ[j]? = some c) (kp : ∀ a o, a ∉ c.G → H a = some o → H' a = some o) (new : d'.pr c.G H' c.v) : Ok F Γ (Δ.set j { c with d := d' }) σ H' ∧ Fzs H H' := by
  obtain ⟨h, f⟩ := k.hk.turn hj kp new
  exact ⟨⟨h, k.len, fun i p e => by
    obtain ⟨v, hs, q⟩ := k.gam i p e
    exact ⟨v, hs, p.mono f q⟩⟩, f⟩
end L3
namespace L3
open PySem PySem.Spec PyProof.Rows L2
theorem flat_sub : ∀ {Δ' Δ : Δs}, Δ'.Sublist Δ → (cellsOf Δ').Sublist (cellsOf Δ)
  | _, _, .slnil => List.Sublist.refl _
  | _, _, .cons a s => by
    unfold cellsOf
    rw [List.flatMap_cons]
    exact (flat_sub s).trans (List.sublist_append_right _ _)
  | _, _, .cons₂ a s => by
    unfold cellsOf
    rw [List.flatMap_cons, List.flatMap_cons]
    exact (List.Sublist.refl _).append (flat_sub s)
theorem Hk.less {F : Fm} {Δ Δ' : Δs} {H : Hp} (k : Hk F Δ H) (h : Δ'.Sublist Δ) : Hk F Δ' H :=
  ⟨k.base, fun c hc => k.del c (h.subset hc), k.nod.sublist (flat_sub h), fun c hc => k.own c (h.subset hc), k.mem⟩
theorem Ok.less {F : Fm} {Γ : Gm} {Δ Δ' : Δs} {σ : SS} {H : Hp} (k : Ok F Γ Δ σ H) (h : Δ'.Sublist Δ) : Ok F Γ Δ' σ H := ⟨k.hk.less h, k.len, k.gam⟩
theorem mem_erase {Δ : Δs} {j : Nat} {x : Cell} (h : x ∈ Δ.eraseIdx j) : ∃ i, i ≠ j ∧ Δ[i]? = some x := by
  obtain ⟨i, e, q⟩ := List.mem_eraseIdx_iff_getElem?.mp h
  exact ⟨i, e, q⟩
/-- the cell at j is locked for good -/
theorem Hk.frz {F : Fm} {Δ : Δs} {H : Hp} {j : Nat} {c : Cell} (k : Hk F Δ H) (hj : Δ[j]? = some c) {Φ : Hp → Prop} (q : ∀ H', Fzs H H' → (∀ a, a ∉ c.G → H' a = H a) → (∀ a o, H a = some o → ∃ u, H' a = some u) → Hk F (Δ.eraseIdx j) H' → c.d.pd.pr H' c.v → Φ H') : tLk c.G Φ H := by
  have nd : c.G.Nodup := by
    have h : (cellsOf [c]).Sublist (cellsOf Δ) := flat_sub (List.singleton_sublist.mpr (cell_mem hj))
    have h2 := k.nod.sublist h
    unfold cellsOf at h2
    rw [List.flatMap_cons] at h2
    exact (List.nodup_append.mp h2).1
  refine c.d.lock (k.del c (cell_mem hj)) nd fun H' kp dom p => q H' ?_ kp dom ?_ p
  · intro a o ps e
    rw [kp a fun ha => ?_]
    · exact e
    · obtain ⟨u, eu, nu⟩ := c.d.cellsN (k.del c (cell_mem hj)) a ha
      rw [e] at eu
      cases eu
      exact nu ps
  · have fz : Fzs H H' := fun a o ps e => by
      rw [kp a fun ha => ?_]
      · exact e
      · obtain ⟨u, eu, nu⟩ := c.d.cellsN (k.del c (cell_mem hj)) a ha
        rw [e] at eu
        cases eu
        exact nu ps
    refine ⟨fun a o e m => ?_, fun x hx => ?_, k.nod.sublist (flat_sub (List.eraseIdx_sublist _ _)), fun x hx => k.own x ((List.eraseIdx_sublist _ _).subset hx), fun a ha => ?_⟩
    · rw [kp a fun ha => ?_]
      · exact k.base a o e m
      · rcases k.own c (cell_mem hj) a ha with z | ⟨_, z⟩
        · rw [e] at z; cases z
        · exact m z
    · obtain ⟨i, ne, hi⟩ := mem_erase hx
      refine x.d.frame (k.del x (cell_mem hi)) (fun a ha o e => ?_) fz
      rw [kp a fun hc => cell_apart k.nod hi hj ne a ha hc]
      exact e
    · obtain ⟨o, e⟩ := k.mem a ha
      exact dom a o e
theorem Ok.frz {F : Fm} {Γ : Gm} {Δ : Δs} {σ : SS} {H : Hp} {j : Nat} {c : Cell} (k : Ok F Γ Δ σ H) (hj : Δ[j]? = some c) {Φ : Hp → Prop} (q : ∀ H', Fzs H H' → (∀ a, a ∉ c.G → H' a = H a) → (∀ a o, H a = some o → ∃ u, H' a = some u) → Ok F Γ (Δ.eraseIdx j) σ H' → c.d.pd.pr H' c.v → Φ H') : tLk c.G Φ H :=
  k.hk.frz hj fun H' f kp dom h p => q H' f kp dom ⟨h, k.len, fun i p e => by
    obtain ⟨v, hs, q⟩ := k.gam i p e
    exact ⟨v, hs, p.mono f q⟩⟩ p
theorem Ok.set {F : Fm} {Γ : Gm} {Δ : Δs} {σ : SS} {H : Hp} {i : Nat} {p : Pd} {v : V} (k : Ok F Γ Δ σ H) (hp : p.pr H v) : Ok F (Γ.set i (some p)) Δ (σ.set i (some v)) H :=
  ⟨k.hk, by rw [List.length_set, List.length_set]; exact k.len, fun j q e => by
    by_cases h : j = i
    · subst h
      by_cases hl : j < Γ.length
      · rw [List.getElem?_set_self hl] at e
        cases e
        exact ⟨v, List.getElem?_set_self (by rw [k.len]; exact hl), hp⟩
      · rw [List.getElem?_eq_none (by rw [List.length_set]; omega)] at e
        cases e
    · rw [List.getElem?_set_ne (fun z => h z.symm)] at e
      obtain ⟨w, hs, hq⟩ := k.gam j q e
      exact ⟨w, by rw [List.getElem?_set_ne (fun z => h z.symm)]; exact hs, hq⟩⟩
/-- fewer names -/
def SubG : Gm → Gm → Prop
  | [], [] => True
  | none :: g', _ :: g => SubG g' g
  | some p :: g', some q :: g => p = q ∧ SubG g' g
  | _, _ => False
theorem SubG.len : ∀ {g' g : Gm}, SubG g' g → g'.length = g.length
  | [], [], _ => rfl
  | none :: g', _ :: g, h => congrArg (· + 1) (SubG.len (g' := g') (g := g) h)
  | some p :: g', some q :: g, h => congrArg (· + 1) (SubG.len (g' := g') (g := g) h.2)
  | [], _ :: _, h => h.elim
  | some _ :: _, [], h => h.elim
  | none :: _, [], h => h.elim
  | some _ :: _, none :: _, h => h.elim
theorem SubG.get : ∀ {g' g : Gm} {i : Nat} {p : Pd}, SubG g' g → g'[i]? = some (some p) → g[i]? = some (some p)
  | [], [], _, _, _, e => by simp at e
  | none :: g', _ :: g, 0, p, h, e => by simp at e
  | none :: g', _ :: g, i + 1, p, h, e => SubG.get (g' := g') (g := g) (i := i) h (by simpa using e)
  | some a :: g', some b :: g, 0, p, h, e => by
    have q : a = p := by simpa using e
    rw [← q, h.1]
    rfl
  | some a :: g', some b :: g, i + 1, p, h, e => SubG.get (g' := g') (g := g) (i := i) h.2 (by simpa using e)
  | [], _ :: _, _, _, h, _ => h.elim
  | some _ :: _, [], _, _, h, _ => h.elim
  | none :: _, [], _, _, h, _ => h.elim
  | some _ :: _, none :: _, _, _, h, _ => h.elim
theorem Ok.wk {F : Fm} {Γ Γ' : Gm} {Δ Δ' : Δs} {σ : SS} {H : Hp} (k : Ok F Γ Δ σ H) (g : SubG Γ' Γ) (h : Δ'.Sublist Δ) : Ok F Γ' Δ' σ H :=
  ⟨k.hk.less h, k.len.trans g.len.symm, fun i p e => k.gam i p (g.get e)⟩
end L3
end
section
set_option Elab.async false
set_option linter.all false
set_option maxRecDepth 100000
set_option maxHeartbeats 4000000
namespace L3
open PySem PySem.Spec PyProof.Rows L2
section
variable {X : Cx} {W : List Addr} {F : Fm} {Γ : Gm} {Δ : Δs} {γ : Type}

/-! ### what is new is locked -/
theorem x_frz {β : Type} {e : Expr} {T : Option γ} {k : β → Option γ} {D : β → Od} {Δ' : β → Δs} (he : PE X e (tO W F Γ Δ T k D Δ')) : PE X e (tE W F Γ Δ T k (fun b => (D b).pd) Δ') :=
  ⟨fun pins s σ H Q I ⟨ok, g, e, q⟩ => thn (he.run pins s σ H (fun v H' => ∃ b G, k b = some g ∧ St W H H' ∧ (∀ a ∈ G, H a = none) ∧ Ok F Γ (⟨G, v, D b, false⟩ :: Δ' b) σ H') I ⟨ok, g, e, fun b v G H' kb f nw ok' => ⟨b, G, kb, f, nw, ok'⟩⟩) fun u s1 ⟨v, H1, I1, r1, b, G, kb, f, nw, ok1⟩ => by
    obtain ⟨H2, I2, f2, kp2, dm2, ok2, p2⟩ := inv_lk (Φ := fun H2 => Fzs H1 H2 ∧ (∀ a, a ∉ G → H2 a = H1 a) ∧ (∀ a o, H1 a = some o → ∃ u, H2 a = some u) ∧ Ok F Γ (Δ' b) σ H2 ∧ (D b).pd.pr H2 v) I1 (ok1.frz (j := 0) rfl fun H' f kp dom h p => ⟨f, kp, dom, h, p⟩)
    refine ⟨v, H2, I2, r1, q b v H2 kb ⟨f.fz.trans f2, fun a o n h => ?_, fun a o h => ?_⟩ ok2 p2⟩
    · rw [kp2 a fun ha => ?_]
      · exact f.kp a o n h
      · rw [nw a ha] at h; cases h
    · obtain ⟨u, e⟩ := f.dom a o h
      exact dm2 a u e⟩

/-! ### one operand -/
def Un1 (X : Cx) (e a : Expr) (r : V → Hp → VK → Prop) : Prop := ∀ ta, PE X a ta → PE X e (tUn r ta)
theorem u_un {op : UnaryOp} {r : V → Hp → VK → Prop} {a : Expr} {pos : Pos} (ho : UnR X (unaryOp op) r) : Un1 X (.UnaryOp op a pos) a r := fun _ ha => pe_un ho ha
theorem u_callB {id : String} {r : List V → Hp → VK → Prop} {x : Str} {a : Expr} {p pos : Pos} (hc : CallR X (.builtin id) r) (hg : Gl X x) (hm : X.mg x = none) (hv : bootBuiltins x = some (.builtin id)) (hn : x ≠ "__name__" := by decide) (hdb : (x == ("__debug__" : Str)) = false := by decide)
    (hs : starEach [a] X.env = (false, eval a X.env) :: starEach [] X.env := by rfl) : Un1 X (.Call (.Name x p) [a] [] pos) a (fun v => r [v]) := fun ta ha => (pe_callB hc hg hm hv (pa_cons ha pa_nil hs) hn hdb hs).wk fun σ H Q h => h
theorem u_callTy {id : String} {r : List V → Hp → VK → Prop} {x : Str} {a : Expr} {p pos : Pos} (hc : CallR X (.type id) r) (hg : Gl X x) (hm : X.mg x = none) (hv : bootBuiltins x = some (.type id)) (hn : x ≠ "__name__" := by decide) (hdb : (x == ("__debug__" : Str)) = false := by decide)
    (hs : starEach [a] X.env = (false, eval a X.env) :: starEach [] X.env := by rfl) : Un1 X (.Call (.Name x p) [a] [] pos) a (fun v => r [v]) := fun ta ha => (pe_callTy hc hg hm hv (pa_cons ha pa_nil hs) hn hdb hs).wk fun σ H Q h => h
theorem b_callB {id : String} {r : List V → Hp → VK → Prop} {x : Str} {a b : Expr} {p pos : Pos} (hc : CallR X (.builtin id) r) (hg : Gl X x) (hm : X.mg x = none) (hv : bootBuiltins x = some (.builtin id)) (hn : x ≠ "__name__" := by decide) (hdb : (x == ("__debug__" : Str)) = false := by decide)
    (hs : starEach [a, b] X.env = (false, eval a X.env) :: starEach [b] X.env := by rfl) (hs2 : starEach [b] X.env = (false, eval b X.env) :: starEach [] X.env := by rfl) (hpl : (backTo pos (starEach [b] X.env)).any (·.1) = false := by rfl) : Bin2 X (.Call (.Name x p) [a, b] [] pos) a b (fun v w => r [v, w]) := fun ta tb ha hb => (pe_callB hc hg hm hv (pa_cons ha (pa_cons hb pa_nil hs2) hs) hn hdb hs hpl).wk fun σ H Q h => h
section
variable {e a : Expr} {r : V → Hp → VK → Prop} {β : Type} {T : Option γ} {E1 : β → Pd} {Δ1 : β → Δs}
theorem x1t {k : β → Option γ} {E : β → Pd} (h1 : Un1 X e a r) (ha : PE X a (tE W F Γ Δ T k E1 Δ1)) (hv : ∀ b σ v H Q, Ok F Γ (Δ1 b) σ H → (E1 b).pr H v → (∀ u, (E b).pr H u → Q u H) → r v H Q) : PE X e (tE W F Γ Δ T k E Δ1) :=
  (h1 _ ha).wk fun σ H Q ⟨ok, g, e, q⟩ => ⟨ok, g, e, fun b v H' kb f ok' hp => hv b σ v H' Q ok' hp fun u hu => q b u H' kb f ok' hu⟩
theorem x1g {k : β → Option γ} {E : β → Pd} {c : β → Prop} [∀ b, Decidable (c b)] (h1 : Un1 X e a r) (ha : PE X a (tE W F Γ Δ T (fun b => grd (c b) (k b)) E1 Δ1)) (hv : ∀ b σ v H Q, Ok F Γ (Δ1 b) σ H → c b → (E1 b).pr H v → (∀ u, (E b).pr H u → Q u H) → r v H Q) : PE X e (tE W F Γ Δ T k E Δ1) :=
  (h1 _ ha).wk fun σ H Q ⟨ok, g, e, q⟩ => ⟨ok, g, e, fun b v H' kb f ok' hp => hv b σ v H' Q ok' (grd_some kb).1 hp fun u hu => q b u H' (grd_some kb).2 f ok' hu⟩
theorem x1p {β2 : Type} {k : β × β2 → Option γ} {E : β × β2 → Pd} {m : β → Option β2} (h1 : Un1 X e a r) (ha : PE X a (tE W F Γ Δ T (fun b => (m b).bind fun c => k (b, c)) E1 Δ1))
    (hv : ∀ b c σ v H Q, Ok F Γ (Δ1 b) σ H → m b = some c → (E1 b).pr H v → (∀ u, (E (b, c)).pr H u → Q u H) → r v H Q) : PE X e (tE W F Γ Δ T k E fun b => Δ1 b.1) :=
  (h1 _ ha).wk fun σ H Q ⟨ok, g, e, q⟩ => ⟨ok, g, e, fun b v H' kb f ok' hp => by
    obtain ⟨c, ec, kc⟩ := bind_some kb
    exact hv b c σ v H' Q ok' ec hp fun u hu => q (b, c) u H' kc f ok' hu⟩
/-- a new list -/
theorem Ok.newL {σ : SS} {H : Hp} {p : Addr} {α : Type} {E : α → Pd} {xs : List α} {vs : List V} (ok : Ok F Γ Δ σ H) (hp : H p = none) (z : xs.length ≤ sizeLine) (q : Paired (fun x u => (E x).pr H u) xs vs) : Ok F Γ (⟨[p], .ref p, oL E xs, false⟩ :: Δ) σ (upd H p (.lst vs)) ∧ Gr H (upd H p (.lst vs)) := by
  have g : Gr H (upd H p (.lst vs)) := Gr.new hp
  have ok' := ok.gr g
  refine ⟨⟨ok.hk.add g (List.nodup_cons.mpr ⟨List.not_mem_nil, List.nodup_nil⟩) (fun a ha => by rw [List.mem_singleton.mp ha]; exact hp) ⟨p, vs, rfl, rfl, upd_same, z, paired_mono (fun x _ => (E x).mono g.fzs) q⟩, ok'.len, ok'.gam⟩, g⟩
theorem Ok.newD {σ : SS} {H : Hp} {p : Addr} {α : Type} {E : α → Pd} {xs : List (Str × α)} {kvs : List (Key × V)} (ok : Ok F Γ Δ σ H) (hp : H p = none) (z : xs.length ≤ sizeLine) (q : Paired (fun (x : Str × α) (u : Key × V) => u.1 = .inr x.1 ∧ (E x.2).pr H u.2) xs kvs) : Ok F Γ (⟨[p], .ref p, oD E xs, false⟩ :: Δ) σ (upd H p (.dK kvs)) ∧ Gr H (upd H p (.dK kvs)) := by
  have g : Gr H (upd H p (.dK kvs)) := Gr.new hp
  have ok' := ok.gr g
  refine ⟨⟨ok.hk.add g (List.nodup_cons.mpr ⟨List.not_mem_nil, List.nodup_nil⟩) (fun a ha => by rw [List.mem_singleton.mp ha]; exact hp) ⟨p, kvs, rfl, rfl, upd_same, z, paired_mono (fun x _ w => ⟨w.1, (E x.2).mono g.fzs w.2⟩) q⟩, ok'.len, ok'.gam⟩, g⟩
theorem x1n {k : β → Option γ} {α : Type} {Ee : α → Pd} {ys : β → List α} (h1 : Un1 X e a r) (ha : PE X a (tE W F Γ Δ T k E1 Δ1))
    (hv : ∀ b σ v H Q, Ok F Γ (Δ1 b) σ H → (E1 b).pr H v → (∀ p vs, H p = none → (ys b).length ≤ sizeLine → Paired (fun x u => (Ee x).pr H u) (ys b) vs → Q (.ref p) (upd H p (.lst vs))) → r v H Q) : PE X e (tO W F Γ Δ T k (fun b => oL Ee (ys b)) Δ1) :=
  (h1 _ ha).wk fun σ H Q ⟨ok, g, e, q⟩ => ⟨ok, g, e, fun b v H' kb f ok' hp => hv b σ v H' Q ok' hp fun p vs np z pr => by
    obtain ⟨o2, f2⟩ := ok'.newL np z pr
    exact q b _ _ _ kb (f.trans f2.st) (fun a ha => by rw [List.mem_singleton.mp ha]; exact f.back np) o2⟩
end
/-! ### argument lists -/
theorem a_nil {k : Unit → Option γ} : PA X [] (tAr W F Γ Δ (k ()) k (fun _ => []) fun _ => Δ) := pa_nil.wk fun σ H Q ⟨ok, g, e, q⟩ => q () [] H e (St.refl H) ok .nil
theorem a_cons {a : Expr} {es : List Expr} {β1 β2 : Type} {T : Option γ} {k1 : β1 → Option γ} {k : β1 × β2 → Option γ} {E1 : β1 → Pd} {Es : β1 → β2 → List Pd} {Δ1 : β1 → Δs} {Δ2 : β1 → β2 → Δs}
    (ha : PE X a (tE W F Γ Δ T k1 E1 Δ1)) (hr : ∀ b1, PA X es (tAr W F Γ (Δ1 b1) (k1 b1) (fun b2 => k (b1, b2)) (Es b1) (Δ2 b1))) (hs : starEach (a :: es) X.env = (false, eval a X.env) :: starEach es X.env := by rfl) :
    PA X (a :: es) (tAr W F Γ Δ T k (fun b => E1 b.1 :: Es b.1 b.2) fun b => Δ2 b.1 b.2) :=
  (pa_cons ha (pa_ex hr) hs).wk fun σ H Q ⟨ok, g, e, q⟩ => ⟨ok, g, e, fun b1 v H1 kb f1 ok1 hv => ⟨b1, ok1, g, kb, fun b2 vs H2 kb2 f2 ok2 hvs => q (b1, b2) (v :: vs) H2 kb2 (f1.trans f2) ok2 (.cons ((E1 b1).mono f2.fz hv) hvs)⟩⟩
theorem paired_len {α β : Type} {P : α → β → Prop} {l₁ : List α} {l₂ : List β} (h : Paired P l₁ l₂) : l₁.length = l₂.length := Paired.length h
/-- [a, b, ..] of one kind -/
theorem paired_map {α : Type} {E : α → Pd} {H : Hp} : ∀ {xs : List α} {vs : List V}, Paired (fun p v => Pd.pr p H v) (xs.map E) vs → Paired (fun x v => (E x).pr H v) xs vs
  | [], _, h => by cases h; exact .nil
  | x :: xs, _, h => by
    cases h with
    | cons r t => exact .cons r (paired_map t)
theorem x_disp {es : List Expr} {pos : Pos} {β α : Type} {T : Option γ} {k : β → Option γ} {Es : β → List Pd} {Δ1 : β → Δs} (Ee : α → Pd) (xs : β → List α) (ha : PA X es (tAr W F Γ Δ T k Es Δ1)) (he : ∀ b, Es b = (xs b).map Ee) (hz : ∀ b, (xs b).length ≤ 1000) :
    PE X (.List es pos) (tO W F Γ Δ T k (fun b => oL Ee (xs b)) Δ1) :=
  (pe_lst ha).wk fun σ H Q ⟨ok, g, e, q⟩ => ⟨ok, g, e, fun b vs H' kb f ok' hp => by
    rw [he b] at hp
    have hp2 := paired_map hp
    have z : (xs b).length ≤ sizeLine := Nat.le_trans (hz b) (by decide)
    refine ⟨by rw [← paired_len hp2]; exact z, fun p np => ?_⟩
    obtain ⟨o2, f2⟩ := ok'.newL np z hp2
    exact q b _ _ _ kb (f.trans f2.st) (fun a ha => by rw [List.mem_singleton.mp ha]; exact f.back np) o2⟩
theorem x_nil {pos : Pos} {α : Type} {k : Unit → Option γ} (Ee : α → Pd) : PE X (.List [] pos) (tO W F Γ Δ (k ()) k (fun _ => oL Ee []) fun _ => Δ) := x_disp Ee (fun _ => []) a_nil (fun _ => rfl) fun _ => Nat.zero_le _
theorem paired2 {α β : Type} {P : α → β → Prop} {p q : α} {vs : List β} (h : Paired P [p, q] vs) : ∃ u w, vs = [u, w] ∧ P p u ∧ P q w := by
  cases h with
  | cons r1 t => cases t with
    | cons r2 t => cases t with
      | nil => exact ⟨_, _, rfl, r1, r2⟩
theorem paired3 {α β : Type} {P : α → β → Prop} {p q r : α} {vs : List β} (h : Paired P [p, q, r] vs) : ∃ u w z, vs = [u, w, z] ∧ P p u ∧ P q w ∧ P r z := by
  cases h with
  | cons r1 t =>
    obtain ⟨u, w, e, h1, h2⟩ := paired2 t
    subst e
    exact ⟨_, _, _, rfl, r1, h1, h2⟩
theorem x_tup2 {a b : Expr} {x1} {pos : Pos} {α1 α2 β : Type} {T : Option γ} {k : β → Option γ} {Δ1 : β → Δs} {p q : β → Pd} (ha : PA X [a, b] (tAr W F Γ Δ T k (fun b => [p b, q b]) Δ1)) (E1 : α1 → Pd) (E2 : α2 → Pd) (x : β → α1) (y : β → α2) (h1 : ∀ b, p b = E1 (x b) := by exact fun _ => rfl) (h2 : ∀ b, q b = E2 (y b) := by exact fun _ => rfl) :
    PE X (.Tuple [a, b] x1 pos) (tE W F Γ Δ T k (fun b => pT2 E1 E2 (x b, y b)) Δ1) :=
  (pe_tup ha).wk fun σ H Q ⟨ok, g, e, w⟩ => ⟨ok, g, e, fun b vs H' kb f ok' hp => by
    have hp : Paired (fun p v => Pd.pr p H' v) [p b, q b] vs := hp
    rw [h1 b, h2 b] at hp
    obtain ⟨u1, u2, e, r1, r2⟩ := paired2 hp
    subst e
    refine ⟨by show 2 ≤ sizeLine; decide, fun t nt => ?_⟩
    have g' : Gr H' (upd H' t (.tup [u1, u2])) := Gr.new nt
    exact w b _ _ kb (f.trans g'.st) (ok'.gr g') ⟨t, _, _, rfl, upd_same, (E1 _).mono g'.fzs r1, (E2 _).mono g'.fzs r2⟩⟩

/-! ### statements -/
variable {γ : Type} {N : Fn γ} {rest : List Stmt}
theorem s_asg {i : Nat} {x : Str} {e : Expr} {pos pos' : Pos} {β : Type} {T : Option γ} {k : β → Option γ} {E : β → Pd} {Δ' : β → Δs} (nd : X.N.Nodup) (he : PE X e (tE (cellsOf Δ) F Γ Δ T k E Δ'))
    (hr : ∀ b, PSs X rest (tS F (Γ.set i (some (E b))) (Δ' b) N (k b))) (hi : X.N[i]? = some x := by rfl) (hx : Loc X.env.scope x := by first | exact .inl rfl | exact .inr rfl)
    (hs : swapsWith e (some (.Name x pos')) pos.line X.env = pure false := by rfl) (hf : X.fn x = true ∨ X.env.scope.names.lookup x = some .local := by first | exact .inl rfl | exact .inr rfl | assumption) :
    PSs X (.Assign [.Name x pos'] e pos :: rest) (tS F Γ Δ N T) :=
  (pss_cons (ps_set nd hi hx he hs hf) (pss_ex hr)).wk fun D σ H ⟨ok, g, e, f⟩ => ⟨ok, g, e, fun b v H' kb fz ok' hv => ⟨b, ok'.set hv, g, kb, N.mono f fz.fz⟩⟩
/-- .. the value as a letter -/
theorem s_let {i : Nat} {x : Str} {e : Expr} {pos pos' : Pos} {β α : Type} {T : Option γ} {Δ' : β → Δs} {val : β → α} {k2 : β → α → Option γ} (E0 : α → Pd) (nd : X.N.Nodup) (he : PE X e (tE (cellsOf Δ) F Γ Δ T (fun b => (some (val b)).bind (k2 b)) (fun b => E0 (val b)) Δ'))
    (hr : ∀ b a, PSs X rest (tS F (Γ.set i (some (E0 a))) (Δ' b) N (k2 b a))) (hi : X.N[i]? = some x := by rfl) (hx : Loc X.env.scope x := by first | exact .inl rfl | exact .inr rfl)
    (hs : swapsWith e (some (.Name x pos')) pos.line X.env = pure false := by rfl) (hf : X.fn x = true ∨ X.env.scope.names.lookup x = some .local := by first | exact .inl rfl | exact .inr rfl | assumption) :
    PSs X (.Assign [.Name x pos'] e pos :: rest) (tS F Γ Δ N T) :=
  s_asg nd he (fun b => hr b (val b)) hi hx hs hf
theorem s_letO {i : Nat} {x : Str} {e : Expr} {pos pos' : Pos} {β α : Type} {T : Option γ} {Δ' : β → Δs} {val : β → α} {k2 : β → α → Option γ} (D0 : α → Od) (nd : X.N.Nodup) (he : PE X e (tO (cellsOf Δ) F Γ Δ T (fun b => (some (val b)).bind (k2 b)) (fun b => D0 (val b)) Δ'))
    (hr : ∀ b a v G, PSs X rest (tS F (Γ.set i (some (pV v))) (⟨G, v, D0 a, false⟩ :: Δ' b) N (k2 b a))) (hi : X.N[i]? = some x := by rfl) (hx : Loc X.env.scope x := by first | exact .inl rfl | exact .inr rfl)
    (hs : swapsWith e (some (.Name x pos')) pos.line X.env = pure false := by rfl) (hf : X.fn x = true ∨ X.env.scope.names.lookup x = some .local := by first | exact .inl rfl | exact .inr rfl | assumption) :
    PSs X (.Assign [.Name x pos'] e pos :: rest) (tS F Γ Δ N T) :=
  (pss_cons (ps_set nd hi hx he hs hf) (pss_ex fun b => pss_ex fun v => pss_ex fun G => hr b (val b) v G)).wk fun D σ H ⟨ok, g, e, f⟩ => ⟨ok, g, e, fun b v G H' kb fz _ ok' => ⟨b, v, G, ok'.set rfl, g, kb, N.mono f fz.fz⟩⟩
/-- the mirror said otherwise -/
theorem s_is {st : List Stmt} {T T' : Option γ} (hr : PSs X st (tS F Γ Δ N T')) (e : T = T') : PSs X st (tS F Γ Δ N T) := by rw [e]; exact hr
/-- ghost steps -/
theorem s_wk {st : List Stmt} {Γ' : Gm} {Δ' : Δs} {T : Option γ} (g : SubG Γ' Γ) (h : Δ'.Sublist Δ) (hr : PSs X st (tS F Γ' Δ' N T)) : PSs X st (tS F Γ Δ N T) :=
  hr.wk fun D σ H ⟨ok, g', e, f⟩ => ⟨ok.wk g h, g', e, f⟩
theorem Ok.frzS {σ : SS} {H : Hp} {i j : Nat} {c : Cell} (k : Ok F Γ Δ σ H) (hj : Δ[j]? = some c) (hi : Γ[i]? = some (some (pV c.v))) {Φ : Hp → Prop} (q : ∀ H', Fzs H H' → Ok F (Γ.set i (some c.d.pd)) (Δ.eraseIdx j) σ H' → Φ H') : tLk c.G Φ H :=
  k.frz hj fun H' f _ _ ok' p => q H' f (by
    obtain ⟨v, hs, hv⟩ := k.gam i _ hi
    have hv2 : v = c.v := hv
    subst hv2
    refine ⟨ok'.hk, by rw [List.length_set]; exact ok'.len, fun m p' e => ?_⟩
    by_cases h : m = i
    · subst h
      rw [List.getElem?_set_self (List.getElem?_eq_some_iff.mp hi).1] at e
      cases e
      exact ⟨_, hs, p⟩
    · rw [List.getElem?_set_ne (fun z => h z.symm)] at e
      exact ok'.gam m p' e)
theorem s_frz {st : List Stmt} {i : Nat} {T : Option γ} {c : Cell} (j : Nat) (hr : PSs X st (tS F (Γ.set i (some c.d.pd)) (Δ.eraseIdx j) N T)) (hj : Δ[j]? = some c := by rfl) (hi : Γ[i]? = some (some (pV c.v)) := by rfl) : PSs X st (tS F Γ Δ N T) :=
  ⟨fun pins s σ H D I ⟨ok, g, e, f⟩ => by
    obtain ⟨H2, I2, ok2⟩ := inv_lk (Φ := fun H2 => Fzs H H2 ∧ Ok F (Γ.set i (some c.d.pd)) (Δ.eraseIdx j) σ H2) I (ok.frzS hj hi fun H' f h => ⟨f, h⟩)
    exact hr.run pins s σ H2 D I2 ⟨ok2.2, g, e, N.mono f ok2.1⟩⟩
/-- an expression for what it does -/
theorem s_expr {e : Expr} {pos : Pos} {β : Type} {T : Option γ} {k : β → Option γ} {E : β → Pd} {Δ' : β → Δs} (he : PE X e (tE (cellsOf Δ) F Γ Δ T k E Δ')) (hr : ∀ b, PSs X rest (tS F Γ (Δ' b) N (k b))) (hs : swapsWith e none pos.line X.env = pure false := by rfl) :
    PSs X (.Expr e pos :: rest) (tS F Γ Δ N T) :=
  (pss_cons (ps_expr he hs) (pss_ex hr)).wk fun D σ H ⟨ok, g, e, f⟩ => ⟨ok, g, e, fun b v H' kb fz ok' _ => ⟨b, ok', g, kb, N.mono f fz.fz⟩⟩
/-! ends -/
abbrev Rt (ρ : Type) := ρ → VK → Prop
def fF {ρ : Type} (R : Rt ρ) : Fn ρ := ⟨fun _ r D => R r D.rt, fun h _ => h⟩
/-- a def's end: its value is of a kind; what it owned of its caller's -/
def RF {ρ : Type} (F : Fm) (P : ρ → Δs) (Rp : ρ → Pd) : Rt ρ := fun r rt => ∀ v H', Hk F (P r) H' → (Rp r).pr H' v → rt v H'
def RO {ρ : Type} (F : Fm) (P : ρ → Δs) (Ro : ρ → Od) : Rt ρ := fun r rt => ∀ v G H', Hk F (⟨G, v, Ro r, false⟩ :: P r) H' → rt v H'
theorem s_ret {e : Expr} {pos : Pos} {β ρ : Type} {T : Option γ} {Δ' : β → Δs} {P : ρ → Δs} {Rp : ρ → Pd} {ι : ρ → γ} {rv : β → ρ} (hN : ∀ H r D, N.fin H (ι r) D → RF F P Rp r D.rt) (he : PE X e (tE (cellsOf Δ) F Γ Δ T (fun b => some (ι (rv b))) (fun b => Rp (rv b)) Δ'))
    (hP : ∀ b, (P (rv b)).Sublist (Δ' b)) : PSs X [.Return (some e) pos] (tS F Γ Δ N T) :=
  (pss_one (ps_ret he)).wk fun D σ H ⟨ok, g, e, f⟩ => ⟨ok, g, e, fun b v H' kb fz ok' hv => by
    have eg : g = ι (rv b) := (Option.some.inj kb).symm
    rw [eg] at f
    exact hN _ _ D f v H' (ok'.hk.less (hP b)) hv⟩
theorem s_retO {e : Expr} {pos : Pos} {β ρ : Type} {T : Option γ} {Δ' : β → Δs} {P : ρ → Δs} {Ro : ρ → Od} {ι : ρ → γ} {rv : β → ρ} (hN : ∀ H r D, N.fin H (ι r) D → RO F P Ro r D.rt) (he : PE X e (tO (cellsOf Δ) F Γ Δ T (fun b => some (ι (rv b))) (fun b => Ro (rv b)) Δ'))
    (hP : ∀ b, (P (rv b)).Sublist (Δ' b)) : PSs X [.Return (some e) pos] (tS F Γ Δ N T) :=
  (pss_one (ps_ret he)).wk fun D σ H ⟨ok, g, e, f⟩ => ⟨ok, g, e, fun b v G H' kb fz _ ok' => by
    have eg : g = ι (rv b) := (Option.some.inj kb).symm
    rw [eg] at f
    exact hN _ _ D f v G H' (ok'.hk.less ((hP b).cons₂ _))⟩
end
end L3
end
section
set_option Elab.async false
set_option linter.all false
set_option maxRecDepth 100000
set_option maxHeartbeats 4000000
set_option autoImplicit true
namespace L3
open PySem PySem.Spec PyProof.Rows L2
section
variable {X : Cx} {W : List Addr} {F : Fm} {Γ : Gm} {Δ : Δs} {γ : Type}
/-! ### tests -/
theorem x_tot {β : Type} {e : Expr} {T : Option γ} {E : β → Pd} {Δ' : β → Δs} (b0 : β) (hβ : ∀ b, b = b0) (he : PE X e (tE W F Γ Δ T (fun _ : β => T) E Δ')) : PE X e (tE W F Γ Δ T (fun _ : Unit => T) (fun _ => E b0) fun _ => Δ' b0) :=
  he.wk fun σ H Q ⟨ok, g, e, q⟩ => ⟨ok, g, e, fun b v H' kb f ok' hv => by
    rw [hβ b] at ok' hv
    exact q () v H' kb f ok' hv⟩
theorem t_val {e : Expr} {β : Type} {T : Option γ} {k : β → Option γ} {c : β → Bool} {Δ' : β → Δs} (he : PE X e (tE W F Γ Δ T k (fun b => pBl (c b)) Δ')) (hw : ∀ whole, isTrue e X.env whole = (do let v ← whole; standAt e.pos; holding [v] (truthy v)) := by intro _; rfl) :
    PT X e (tTs W F Γ Δ T k c Δ') :=
  (pt_val he hw).wk fun σ H Q ⟨ok, g, e, q⟩ => ⟨ok, g, e, fun b v H' kb f ok' hv => ⟨c b, hv, q b H' kb f ok'⟩⟩
theorem t_not {e : Expr} {pos : Pos} {β : Type} {T : Option γ} {k : β → Option γ} {c : β → Bool} {Δ' : β → Δs} (he : PT X e (tTs W F Γ Δ T k c Δ')) : PT X (.UnaryOp .Not e pos) (tTs W F Γ Δ T k (fun b => !c b) Δ') :=
  (pt_not he).wk fun σ H Q ⟨ok, g, e, q⟩ => ⟨ok, g, e, fun b H' kb f ok' => q b H' kb f ok'⟩
theorem x_not {e : Expr} {pos : Pos} {β : Type} {T : Option γ} {k : β → Option γ} {c : β → Bool} {Δ' : β → Δs} (he : PE X e (tE W F Γ Δ T k (fun b => pBl (c b)) Δ')) : PE X (.UnaryOp .Not e pos) (tE W F Γ Δ T k (fun b => pBl (!c b)) Δ') :=
  (pe_not he).wk fun σ H Q ⟨ok, g, e, q⟩ => ⟨ok, g, e, fun b v H' kb f ok' hv => ⟨c b, hv, q b _ H' kb f ok' rfl⟩⟩
theorem t_tot {β : Type} {e : Expr} {T : Option γ} {c : β → Bool} {Δ' : β → Δs} (b0 : β) (hβ : ∀ b, b = b0) (he : PT X e (tTs W F Γ Δ T (fun _ : β => T) c Δ')) : PT X e (tTs W F Γ Δ T (fun _ : Unit => T) (fun _ => c b0) fun _ => Δ' b0) :=
  he.wk fun σ H Q ⟨ok, g, e, q⟩ => ⟨ok, g, e, fun b H' kb f ok' => by
    rw [hβ b] at ok' ⊢
    exact q () H' kb f ok'⟩
section
variable {a b : Expr} {rest : List Expr} {pos : Pos} {c1 c2 : Bool} {T : Option γ}
abbrev tTot (W : List Addr) (F : Fm) (Γ : Gm) (Δ : Δs) {γ : Type} (T : Option γ) (c : Bool) : TT := tTs W F Γ Δ T (fun _ : Unit => T) (fun _ => c) fun _ => Δ
abbrev eTot (W : List Addr) (F : Fm) (Γ : Gm) (Δ : Δs) {γ : Type} (T : Option γ) (p : Pd) : TE := tE W F Γ Δ T (fun _ : Unit => T) (fun _ => p) fun _ => Δ
theorem w_and1 (ha : PT X a (tTs W F Γ Δ T k c Δ')) : PW X (.BoolOp .And [a] pos) (tTs W F Γ Δ T k c Δ') := pw_and1 ha
theorem w_or1 (ha : PT X a (tTs W F Γ Δ T k c Δ')) : PW X (.BoolOp .Or [a] pos) (tTs W F Γ Δ T k c Δ') := pw_or1 ha
theorem w_and (ha : PT X a (tTot W F Γ Δ T c1)) (hb : PW X (.BoolOp .And (b :: rest) pos) (tTot W F Γ Δ T c2)) : PW X (.BoolOp .And (a :: b :: rest) pos) (tTot W F Γ Δ T (c1 && c2)) :=
  (pw_and ha hb).wk fun σ H Q ⟨ok, g, e, q⟩ => ⟨ok, g, e, fun _ H1 kb f ok1 => by
    cases c1 with
    | true => exact iteT ⟨ok1, g, e, fun _ H2 kb2 f2 ok2 => q () H2 kb2 (f.trans f2) ok2⟩
    | false => exact iteF (q () H1 kb f ok1)⟩
theorem w_or (ha : PT X a (tTot W F Γ Δ T c1)) (hb : PW X (.BoolOp .Or (b :: rest) pos) (tTot W F Γ Δ T c2)) : PW X (.BoolOp .Or (a :: b :: rest) pos) (tTot W F Γ Δ T (c1 || c2)) :=
  (pw_or ha hb).wk fun σ H Q ⟨ok, g, e, q⟩ => ⟨ok, g, e, fun _ H1 kb f ok1 => by
    cases c1 with
    | true => exact iteT (q () H1 kb f ok1)
    | false => exact iteF ⟨ok1, g, e, fun _ H2 kb2 f2 ok2 => q () H2 kb2 (f.trans f2) ok2⟩⟩
theorem v_one {op} {t : TE} (h : PE X a t) : PE X (.BoolOp op [a] pos) t := pe_one h
theorem v_and (ha : PE X a (eTot W F Γ Δ T (pBl c1))) (hb : PE X (.BoolOp .And (b :: rest) pos) (eTot W F Γ Δ T (pBl c2))) : PE X (.BoolOp .And (a :: b :: rest) pos) (eTot W F Γ Δ T (pBl (c1 && c2))) :=
  (pe_and ha hb).wk fun σ H Q ⟨ok, g, e, q⟩ => ⟨ok, g, e, fun _ v H1 kb f ok1 hv => ⟨c1, hv, by
    cases c1 with
    | true => exact iteT ⟨ok1, g, e, fun _ w H2 kb2 f2 ok2 hw => q () w H2 kb2 (f.trans f2) ok2 hw⟩
    | false => exact iteF (q () _ H1 kb f ok1 rfl)⟩⟩
theorem v_or (ha : PE X a (eTot W F Γ Δ T (pBl c1))) (hb : PE X (.BoolOp .Or (b :: rest) pos) (eTot W F Γ Δ T (pBl c2))) : PE X (.BoolOp .Or (a :: b :: rest) pos) (eTot W F Γ Δ T (pBl (c1 || c2))) :=
  (pe_or ha hb).wk fun σ H Q ⟨ok, g, e, q⟩ => ⟨ok, g, e, fun _ v H1 kb f ok1 hv => ⟨c1, hv, by
    cases c1 with
    | true => exact iteT (q () _ H1 kb f ok1 rfl)
    | false => exact iteF ⟨ok1, g, e, fun _ w H2 kb2 f2 ok2 hw => q () w H2 kb2 (f.trans f2) ok2 hw⟩⟩⟩
end
section
variable {a b : Expr} {rest : List Expr} {pos : Pos} {β1 β2 S : Type} {T : Option γ} {c1 : β1 → Bool} {c2 : β1 → β2 → Bool} {Δ1 : β1 → Δs} {Δ2 : β1 → β2 → Δs} {T2 : β1 → Option (Bool × S)} {s1 : β1 → S} {s2 : β1 → β2 → S} {ΔS : β1 → S → Δs} {k : β1 × (Bool × S) → Option γ}
theorem w_andM (ha : PT X a (tTs W F Γ Δ T (fun b1 => (if c1 b1 = true then T2 b1 else some (false, s1 b1)).bind fun c => k (b1, c)) c1 Δ1)) (hb : ∀ b1, PW X (.BoolOp .And (b :: rest) pos) (tTs W F Γ (Δ1 b1) (T2 b1) (fun b2 => some (c2 b1 b2, s2 b1 b2)) (c2 b1) (Δ2 b1)))
    (h1 : ∀ b1, Δ1 b1 = ΔS b1 (s1 b1)) (h2 : ∀ b1 b2, Δ2 b1 b2 = ΔS b1 (s2 b1 b2)) : PW X (.BoolOp .And (a :: b :: rest) pos) (tTs W F Γ Δ T k (fun b => b.2.1) fun b => ΔS b.1 b.2.2) :=
  (pw_and ha (pw_ex hb)).wk fun σ H Q ⟨ok, g, e, q⟩ => ⟨ok, g, e, fun b1 H1 kb f ok1 => by
    cases h : c1 b1 with
    | true =>
      try dsimp only at kb
      rw [if_pos h] at kb
      obtain ⟨cs, ec, kc⟩ := bind_some kb
      refine iteT ⟨b1, ok1, cs, ec, fun b2 H2 kb2 f2 ok2 => ?_⟩
      have ecs : (c2 b1 b2, s2 b1 b2) = cs := Option.some.inj kb2
      rw [← ecs] at kc
      rw [h2] at ok2
      exact q (b1, (c2 b1 b2, s2 b1 b2)) H2 kc (f.trans f2) ok2
    | false =>
      try dsimp only at kb
      rw [if_neg (by rw [h]; exact Bool.false_ne_true)] at kb
      rw [h1] at ok1
      exact iteF (q (b1, (false, s1 b1)) H1 kb f ok1)⟩
theorem w_orM (ha : PT X a (tTs W F Γ Δ T (fun b1 => (if c1 b1 = true then some (true, s1 b1) else T2 b1).bind fun c => k (b1, c)) c1 Δ1)) (hb : ∀ b1, PW X (.BoolOp .Or (b :: rest) pos) (tTs W F Γ (Δ1 b1) (T2 b1) (fun b2 => some (c2 b1 b2, s2 b1 b2)) (c2 b1) (Δ2 b1)))
    (h1 : ∀ b1, Δ1 b1 = ΔS b1 (s1 b1)) (h2 : ∀ b1 b2, Δ2 b1 b2 = ΔS b1 (s2 b1 b2)) : PW X (.BoolOp .Or (a :: b :: rest) pos) (tTs W F Γ Δ T k (fun b => b.2.1) fun b => ΔS b.1 b.2.2) :=
  (pw_or ha (pw_ex hb)).wk fun σ H Q ⟨ok, g, e, q⟩ => ⟨ok, g, e, fun b1 H1 kb f ok1 => by
    cases h : c1 b1 with
    | true =>
      try dsimp only at kb
      rw [if_pos h] at kb
      rw [h1] at ok1
      exact iteT (q (b1, (true, s1 b1)) H1 kb f ok1)
    | false =>
      try dsimp only at kb
      rw [if_neg (by rw [h]; exact Bool.false_ne_true)] at kb
      obtain ⟨cs, ec, kc⟩ := bind_some kb
      refine iteF ⟨b1, ok1, cs, ec, fun b2 H2 kb2 f2 ok2 => ?_⟩
      have ecs : (c2 b1 b2, s2 b1 b2) = cs := Option.some.inj kb2
      rw [← ecs] at kc
      rw [h2] at ok2
      exact q (b1, (c2 b1 b2, s2 b1 b2)) H2 kc (f.trans f2) ok2⟩
theorem v_andM (ha : PE X a (tE W F Γ Δ T (fun b1 => (if c1 b1 = true then T2 b1 else some (false, s1 b1)).bind fun c => k (b1, c)) (fun b => pBl (c1 b)) Δ1)) (hb : ∀ b1, PE X (.BoolOp .And (b :: rest) pos) (tE W F Γ (Δ1 b1) (T2 b1) (fun b2 => some (c2 b1 b2, s2 b1 b2)) (fun b2 => pBl (c2 b1 b2)) (Δ2 b1)))
    (h1 : ∀ b1, Δ1 b1 = ΔS b1 (s1 b1)) (h2 : ∀ b1 b2, Δ2 b1 b2 = ΔS b1 (s2 b1 b2)) : PE X (.BoolOp .And (a :: b :: rest) pos) (tE W F Γ Δ T k (fun b => pBl b.2.1) fun b => ΔS b.1 b.2.2) :=
  (pe_and ha (pe_ex hb)).wk fun σ H Q ⟨ok, g, e, q⟩ => ⟨ok, g, e, fun b1 v H1 kb f ok1 hv => ⟨c1 b1, hv, by
    cases h : c1 b1 with
    | true =>
      try dsimp only at kb
      rw [if_pos h] at kb
      obtain ⟨cs, ec, kc⟩ := bind_some kb
      refine iteT ⟨b1, ok1, cs, ec, fun b2 w H2 kb2 f2 ok2 hw => ?_⟩
      have ecs : (c2 b1 b2, s2 b1 b2) = cs := Option.some.inj kb2
      rw [← ecs] at kc
      rw [h2] at ok2
      exact q (b1, (c2 b1 b2, s2 b1 b2)) w H2 kc (f.trans f2) ok2 hw
    | false =>
      try dsimp only at kb
      rw [if_neg (by rw [h]; exact Bool.false_ne_true)] at kb
      rw [h1] at ok1
      exact iteF (q (b1, (false, s1 b1)) _ H1 kb f ok1 rfl)⟩⟩
theorem v_orM (ha : PE X a (tE W F Γ Δ T (fun b1 => (if c1 b1 = true then some (true, s1 b1) else T2 b1).bind fun c => k (b1, c)) (fun b => pBl (c1 b)) Δ1)) (hb : ∀ b1, PE X (.BoolOp .Or (b :: rest) pos) (tE W F Γ (Δ1 b1) (T2 b1) (fun b2 => some (c2 b1 b2, s2 b1 b2)) (fun b2 => pBl (c2 b1 b2)) (Δ2 b1)))
    (h1 : ∀ b1, Δ1 b1 = ΔS b1 (s1 b1)) (h2 : ∀ b1 b2, Δ2 b1 b2 = ΔS b1 (s2 b1 b2)) : PE X (.BoolOp .Or (a :: b :: rest) pos) (tE W F Γ Δ T k (fun b => pBl b.2.1) fun b => ΔS b.1 b.2.2) :=
  (pe_or ha (pe_ex hb)).wk fun σ H Q ⟨ok, g, e, q⟩ => ⟨ok, g, e, fun b1 v H1 kb f ok1 hv => ⟨c1 b1, hv, by
    cases h : c1 b1 with
    | true =>
      try dsimp only at kb
      rw [if_pos h] at kb
      rw [h1] at ok1
      exact iteT (q (b1, (true, s1 b1)) _ H1 kb f ok1 rfl)
    | false =>
      try dsimp only at kb
      rw [if_neg (by rw [h]; exact Bool.false_ne_true)] at kb
      obtain ⟨cs, ec, kc⟩ := bind_some kb
      refine iteF ⟨b1, ok1, cs, ec, fun b2 w H2 kb2 f2 ok2 hw => ?_⟩
      have ecs : (c2 b1 b2, s2 b1 b2) = cs := Option.some.inj kb2
      rw [← ecs] at kc
      rw [h2] at ok2
      exact q (b1, (c2 b1 b2, s2 b1 b2)) w H2 kc (f.trans f2) ok2 hw⟩⟩
end

/-! ### blocks -/
inductive Bo (S τ : Type) where
  | nx (s : S)
  | tm (t : τ)
inductive Tm (S ρ : Type) where
  | ct (s : S)
  | bk (s : S)
  | rt (r : ρ)
abbrev Cxt := Gm × Δs
def nxOk (F : Fm) (c : Cxt) (H : Hp) (n : SS → Hp → Prop) : Prop := ∀ σ' H', Fzs H H' → Ok F c.1 c.2 σ' H' → n σ' H'
theorem nxOk.mono {F : Fm} {c : Cxt} {H H' : Hp} {n : SS → Hp → Prop} (h : nxOk F c H n) (f : Fzs H H') : nxOk F c H' n := fun σ1 H1 f1 => h σ1 H1 (f.trans f1)
def fN {S : Type} (F : Fm) (C : S → Cxt) : Fn S := ⟨fun H s D => nxOk F (C s) H D.nx, fun h f => nxOk.mono h f⟩
def fB {S τ : Type} (F : Fm) (C : S → Cxt) (Tf : Fn τ) : Fn (Bo S τ) := ⟨fun H o D => match o with
  | .nx s => nxOk F (C s) H D.nx
  | .tm t => Tf.fin H t D, fun {H H' g D} h f => by
    cases g with
    | nx s => exact nxOk.mono h f
    | tm t => exact Tf.mono h f⟩
def fT {S ρ : Type} (F : Fm) (C : S → Cxt) (R : Rt ρ) : Fn (Tm S ρ) := ⟨fun H o D => match o with
  | .ct s => nxOk F (C s) H D.ct
  | .bk s => nxOk F (C s) H D.bk
  | .rt r => R r D.rt, fun {H H' g D} h f => by
    cases g with
    | ct s => exact nxOk.mono h f
    | bk s => exact nxOk.mono h f
    | rt r => exact h⟩
/-- the end hangs not on what follows -/
def Ins {γ : Type} (N : Fn γ) : Prop := ∀ H g D n, N.fin H g D → N.fin H g { D with nx := n }
theorem ins_F {ρ : Type} (R : Rt ρ) : Ins (fF R) := fun _ _ _ _ h => h
theorem ins_T {S ρ : Type} {F : Fm} {C : S → Cxt} {R : Rt ρ} : Ins (fT F C R) := fun H g D n h => by cases g <;> exact h
def inB {S τ : Type} (T : Option τ) : Option (Bo S τ) := T.bind fun t => some (.tm t)
def boK {S τ γ : Type} (k : S → Option γ) (ι : τ → γ) : Bo S τ → Option γ
  | .nx s => k s
  | .tm t => some (ι t)
variable {N : Fn γ} {rest : List Stmt}
/-- the block's end -/
theorem s_end {S : Type} {C : S → Cxt} {T : Option S} (s : S) (hT : T = some s) (g : SubG (C s).1 Γ) (h : (C s).2.Sublist Δ) : PSs X [] (tS F Γ Δ (fN F C) T) :=
  pss_nil.wk fun D σ H ⟨ok, g', e, f⟩ => by
    rw [hT] at e
    cases e
    exact f σ H (Fzs.refl H) (ok.wk g h)
theorem s_endB {S τ : Type} {C : S → Cxt} {Tf : Fn τ} (s : S) (g : SubG (C s).1 Γ) (h : (C s).2.Sublist Δ) : PSs X [] (tS F Γ Δ (fB F C Tf) (some (.nx s))) :=
  pss_nil.wk fun D σ H ⟨ok, g', e, f⟩ => by
    cases e
    exact f σ H (Fzs.refl H) (ok.wk g h)
theorem s_tm {S τ : Type} {C : S → Cxt} {Tf : Fn τ} {st : List Stmt} {T : Option τ} (h : PSs X st (tS F Γ Δ Tf T)) : PSs X st (tS F Γ Δ (fB F C Tf) (inB T)) :=
  h.wk fun D σ H ⟨ok, g', e, f⟩ => by
    obtain ⟨t, et, e2⟩ := bind_some e
    cases e2
    exact ⟨ok, t, et, f⟩
theorem s_brk {S ρ : Type} {C : S → Cxt} {R : Rt ρ} {pos : Pos} (s : S) (g : SubG (C s).1 Γ) (h : (C s).2.Sublist Δ) : PSs X [.Break pos] (tS F Γ Δ (fT F C R) (some (.bk s))) :=
  (pss_one ps_break).wk fun D σ H ⟨ok, g', e, f⟩ => by
    cases e
    exact f σ H (Fzs.refl H) (ok.wk g h)
theorem s_cont {S ρ : Type} {C : S → Cxt} {R : Rt ρ} {pos : Pos} (s : S) (g : SubG (C s).1 Γ) (h : (C s).2.Sublist Δ) : PSs X [.Continue pos] (tS F Γ Δ (fT F C R) (some (.ct s))) :=
  (pss_one ps_continue).wk fun D σ H ⟨ok, g', e, f⟩ => by
    cases e
    exact f σ H (Fzs.refl H) (ok.wk g h)
/-! ### if -/
section
variable {ce : Expr} {A B : List Stmt} {pos : Pos} {β : Type} {T : Option γ} {c : β → Bool} {Δ' : β → Δs}
theorem s_if0 {N1 N2 : Fn γ} {t : TS} {u : TS} {k : β → Option γ} (hc : PT X ce (tTs (cellsOf Δ) F Γ Δ T k c Δ')) (ha : PSs X A t) (hb : PSs X B u) (hr : PSs X rest v) {t' : TS}
    (hw : ∀ D σ H, t' D σ H → Ok F Γ Δ σ H ∧ ∃ g, T = some g ∧ ∀ b H', k b = some g → St (cellsOf Δ) H H' → Ok F Γ (Δ' b) σ H' → (c b = true → t { D with nx := v D } σ H') ∧ (c b = false → u { D with nx := v D } σ H')) : PSs X (.If ce A B pos :: rest) t' :=
  (pss_cons (ps_if hc ha hb) hr).wk fun D σ H h => by
    obtain ⟨ok, g, e, q⟩ := hw D σ H h
    refine ⟨ok, g, e, fun b H' kb f ok' => ?_⟩
    obtain ⟨q1, q2⟩ := q b H' kb f ok'
    cases hcb : c b with
    | true => exact iteT (q1 hcb)
    | false => exact iteF (q2 hcb)
/-- the first part ends the block: what follows is the other way -/
theorem s_ifT {T1 T2 : β → Option γ} (hI : Ins N) (hc : PT X ce (tTs (cellsOf Δ) F Γ Δ T (fun b => if c b = true then T1 b else T2 b) c Δ')) (ha : ∀ b, PSs X A (tS F Γ (Δ' b) N (T1 b))) (hr : ∀ b, PSs X rest (tS F Γ (Δ' b) N (T2 b))) : PSs X (.If ce A [] pos :: rest) (tS F Γ Δ N T) :=
  s_if0 (N1 := N) (N2 := N) hc (pss_ex ha) pss_nil (pss_ex hr) fun D σ H ⟨ok, g, e, f⟩ => ⟨ok, g, e, fun b H' kb fz ok' => ⟨fun h => by
    try dsimp only at kb
    rw [if_pos h] at kb
    exact ⟨b, ok', g, kb, hI _ _ _ _ (N.mono f fz.fz)⟩, fun h => by
    try dsimp only at kb
    rw [if_neg (by rw [h]; exact Bool.false_ne_true)] at kb
    exact ⟨b, ok', g, kb, N.mono f fz.fz⟩⟩⟩
/-- .. in a block that goes on -/
theorem s_ifB {S τ : Type} {C : S → Cxt} {Tf : Fn τ} {T : Option (Bo S τ)} {T1 : β → Option τ} {T2 : β → Option (Bo S τ)} (hI : Ins Tf) (hc : PT X ce (tTs (cellsOf Δ) F Γ Δ T (fun b => if c b = true then inB (T1 b) else T2 b) c Δ')) (ha : ∀ b, PSs X A (tS F Γ (Δ' b) Tf (T1 b))) (hr : ∀ b, PSs X rest (tS F Γ (Δ' b) (fB F C Tf) (T2 b))) : PSs X (.If ce A [] pos :: rest) (tS F Γ Δ (fB F C Tf) T) :=
  s_if0 (N1 := fB F C Tf) (N2 := fB F C Tf) hc (pss_ex ha) pss_nil (pss_ex hr) fun D σ H ⟨ok, g, e, f⟩ => ⟨ok, g, e, fun b H' kb fz ok' => ⟨fun h => by
    try dsimp only at kb
    rw [if_pos h] at kb
    obtain ⟨t, et, e2⟩ := bind_some kb
    cases e2
    exact ⟨b, ok', t, et, hI _ _ _ _ (Tf.mono f fz.fz)⟩, fun h => by
    try dsimp only at kb
    rw [if_neg (by rw [h]; exact Bool.false_ne_true)] at kb
    exact ⟨b, ok', g, kb, (fB F C Tf).mono f fz.fz⟩⟩⟩
/-- both parts end the block -/
theorem s_ifE {T1 T2 : β → Option γ} (hI : Ins N) (hc : PT X ce (tTs (cellsOf Δ) F Γ Δ T (fun b => if c b = true then T1 b else T2 b) c Δ')) (ha : ∀ b, PSs X A (tS F Γ (Δ' b) N (T1 b))) (hb : ∀ b, PSs X B (tS F Γ (Δ' b) N (T2 b))) : PSs X [.If ce A B pos] (tS F Γ Δ N T) :=
  s_if0 (N1 := N) (N2 := N) hc (pss_ex ha) (pss_ex hb) pss_nil fun D σ H ⟨ok, g, e, f⟩ => ⟨ok, g, e, fun b H' kb fz ok' => ⟨fun h => by
    try dsimp only at kb
    rw [if_pos h] at kb
    exact ⟨b, ok', g, kb, hI _ _ _ _ (N.mono f fz.fz)⟩, fun h => by
    try dsimp only at kb
    rw [if_neg (by rw [h]; exact Bool.false_ne_true)] at kb
    exact ⟨b, ok', g, kb, hI _ _ _ _ (N.mono f fz.fz)⟩⟩⟩
/-- both parts go on -/
theorem s_ifN {S : Type} {C : S → Cxt} {T1 T2 : β → Option S} {k2 : β → S → Option γ} (hc : PT X ce (tTs (cellsOf Δ) F Γ Δ T (fun b => (if c b = true then T1 b else T2 b).bind (k2 b)) c Δ')) (ha : ∀ b, PSs X A (tS F Γ (Δ' b) (fN F C) (T1 b))) (hb : ∀ b, PSs X B (tS F Γ (Δ' b) (fN F C) (T2 b)))
    (hr : ∀ b s, PSs X rest (tS F (C s).1 (C s).2 N (k2 b s))) : PSs X (.If ce A B pos :: rest) (tS F Γ Δ N T) :=
  s_if0 (N1 := N) (N2 := N) hc (pss_ex ha) (pss_ex hb) (pss_ex fun b => pss_ex fun s => hr b s) fun D σ H ⟨ok, g, e, f⟩ => ⟨ok, g, e, fun b H' kb fz ok' => by
    obtain ⟨s, es, ks⟩ := bind_some kb
    refine ⟨fun h => ?_, fun h => ?_⟩
    · rw [if_pos h] at es
      exact ⟨b, ok', s, es, fun σ2 H2 f2 ok2 => ⟨b, s, ok2, g, ks, N.mono f (fz.fz.trans f2)⟩⟩
    · rw [if_neg (by rw [h]; exact Bool.false_ne_true)] at es
      exact ⟨b, ok', s, es, fun σ2 H2 f2 ok2 => ⟨b, s, ok2, g, ks, N.mono f (fz.fz.trans f2)⟩⟩⟩
/-- each part goes on, or ends the block -/
theorem s_ifM {S τ : Type} {C : S → Cxt} {Tf : Fn τ} {ι : τ → γ} {T1 T2 : β → Option (Bo S τ)} {k2 : β → S → Option γ} (hI : Ins Tf) (hι : ∀ H t D, N.fin H (ι t) D → Tf.fin H t D) (hc : PT X ce (tTs (cellsOf Δ) F Γ Δ T (fun b => (if c b = true then T1 b else T2 b).bind (boK (k2 b) ι)) c Δ'))
    (ha : ∀ b, PSs X A (tS F Γ (Δ' b) (fB F C Tf) (T1 b))) (hb : ∀ b, PSs X B (tS F Γ (Δ' b) (fB F C Tf) (T2 b))) (hr : ∀ b s, PSs X rest (tS F (C s).1 (C s).2 N (k2 b s))) : PSs X (.If ce A B pos :: rest) (tS F Γ Δ N T) :=
  s_if0 (N1 := N) (N2 := N) hc (pss_ex ha) (pss_ex hb) (pss_ex fun b => pss_ex fun s => hr b s) fun D σ H ⟨ok, g, e, f⟩ => ⟨ok, g, e, fun b H' kb fz ok' => by
    obtain ⟨o, es, ks⟩ := bind_some kb
    have fin : (fB F C Tf).fin H' o { D with nx := fun σ H => ∃ b s, tS F (C s).1 (C s).2 N (k2 b s) D σ H } := by
      cases o with
      | nx s => exact fun σ2 H2 f2 ok2 => ⟨b, s, ok2, g, ks, N.mono f (fz.fz.trans f2)⟩
      | tm t =>
        have eg : ι t = g := Option.some.inj ks
        subst eg
        exact hI _ _ _ _ (hι _ _ _ (N.mono f fz.fz))
    refine ⟨fun h => ?_, fun h => ?_⟩
    · rw [if_pos h] at es
      exact ⟨b, ok', o, es, fin⟩
    · rw [if_neg (by rw [h]; exact Bool.false_ne_true)] at es
      exact ⟨b, ok', o, es, fin⟩⟩
end
end
end L3
end
section
set_option Elab.async false
set_option linter.all false
set_option maxRecDepth 100000
set_option maxHeartbeats 4000000
namespace L3
open PySem PySem.Spec PyProof.Rows L2
section
variable {X : Cx} {W : List Addr} {F : Fm} {Γ : Gm} {Δ : Δs} {γ : Type}
/-! ### lists that are read: locked, or a cell of one's own -/
def RL {α : Type} (E : α → Pd) (xs : List α) (H : Hp) (v : V) : Prop := ∃ a vs, v = .ref a ∧ Rd H a (.lst vs) ∧ xs.length ≤ sizeLine ∧ Paired (fun x u => (E x).pr H u) xs vs
def RdL {α : Type} (Δ : Δs) (p : Pd) (E : α → Pd) (xs : List α) : Prop := ∀ F H v, Hk F Δ H → p.pr H v → RL E xs H v
theorem rdF {α : Type} {E : α → Pd} {xs : List α} : RdL Δ (pL E xs) E xs := fun _ _ _ _ ⟨a, o, vs, e, h, z, p⟩ => ⟨a, vs, e, .inr ⟨o, h⟩, z, p⟩
theorem rdO {α : Type} {E : α → Pd} {xs : List α} {G : List Addr} {v : V} {prm : Bool} (j : Nat) (h : Δ[j]? = some ⟨G, v, oL E xs, prm⟩ := by rfl) : RdL Δ (pV v) E xs := fun F H w hk e => by
  have e : w = v := e
  subst e
  obtain ⟨p, vs, _, ev, hp, z, q⟩ := hk.del _ (cell_mem h)
  exact ⟨p, vs, ev, .inl hp, z, q⟩
theorem RL.sq {α : Type} {E : α → Pd} {xs : List α} {H : Hp} {v : V} {K : PySem.W.Frag} (h : RL E xs H v) : ∃ a vs, v = .ref a ∧ SqL K H a vs ∧ xs.length ≤ sizeLine ∧ Paired (fun x u => (E x).pr H u) xs vs := by
  obtain ⟨a, vs, e, r, z, p⟩ := h
  exact ⟨a, vs, e, .inl r, z, p⟩
/-! ### paired lists -/
theorem paired_at {α β : Type} {P : α → β → Prop} : ∀ {xs : List α} {vs : List β} {i : Nat} {x : α}, Paired P xs vs → xs[i]? = some x → ∃ v, vs[i]? = some v ∧ P x v
  | _, _, _, _, .nil, e => by simp at e
  | _, _, 0, _, .cons r _, e => by simp at e; subst e; exact ⟨_, rfl, r⟩
  | _, _, i + 1, x, .cons _ t, e => by
    obtain ⟨v, h1, h2⟩ := paired_at (i := i) (x := x) t (by simpa using e)
    exact ⟨v, by simpa using h1, h2⟩
theorem paired_atI {α β : Type} {P : α → β → Prop} {xs : List α} {vs : List β} {i : Int} {x : α} (h : Paired P xs vs) (e : atI xs i = some x) : ∃ v, atI vs i = some v ∧ P x v := by
  unfold atI at e ⊢
  rw [← paired_len h]
  obtain ⟨j, ej, ex⟩ := bind_some e
  obtain ⟨v, hv, p⟩ := paired_at h ex
  exact ⟨v, by rw [ej]; exact hv, p⟩
theorem paired_app {α β : Type} {P : α → β → Prop} : ∀ {xs ys : List α} {vs ws : List β}, Paired P xs vs → Paired P ys ws → Paired P (xs ++ ys) (vs ++ ws)
  | _, _, _, _, .nil, s => s
  | _, _, _, _, .cons r t, s => .cons r (paired_app t s)
theorem paired_drop {α β : Type} {P : α → β → Prop} : ∀ (n : Nat) {xs : List α} {vs : List β}, Paired P xs vs → Paired P (xs.drop n) (vs.drop n)
  | 0, _, _, h => h
  | _ + 1, _, _, .nil => .nil
  | n + 1, _, _, .cons _ t => paired_drop n t
theorem paired_take {α β : Type} {P : α → β → Prop} : ∀ (n : Nat) {xs : List α} {vs : List β}, Paired P xs vs → Paired P (xs.take n) (vs.take n)
  | 0, _, _, _ => .nil
  | _ + 1, _, _, .nil => .nil
  | n + 1, _, _, .cons r t => .cons r (paired_take n t)
theorem paired_set {α β : Type} {P : α → β → Prop} {x : α} {v : β} (r : P x v) : ∀ {xs : List α} {vs : List β} (i : Nat), Paired P xs vs → Paired P (xs.set i x) (vs.set i v)
  | _, _, _, .nil => .nil
  | _, _, 0, .cons _ t => .cons r t
  | _, _, i + 1, .cons q t => .cons q (paired_set r i t)
theorem paired_rev {α β : Type} {P : α → β → Prop} : ∀ {xs : List α} {vs : List β}, Paired P xs vs → Paired P xs.reverse vs.reverse
  | _, _, .nil => .nil
  | _, _, .cons r t => by
    rw [List.reverse_cons, List.reverse_cons]
    exact paired_app (paired_rev t) (.cons r .nil)
theorem paired_ints {H : Hp} : ∀ {xs : List Int} {vs : List V}, Paired (fun x u => (pInt x).pr H u) xs vs → vs = xs.map V.int
  | _, _, .nil => rfl
  | _, _, .cons r t => by rw [List.map_cons, ← paired_ints t]; exact congrArg (· :: _) r
theorem paired_strs {H : Hp} : ∀ {xs : List Str} {vs : List V}, Paired (fun x u => (pStr x).pr H u) xs vs → vs = xs.map V.str
  | _, _, .nil => rfl
  | _, _, .cons r t => by rw [List.map_cons, ← paired_strs t]; exact congrArg (· :: _) r
theorem paired_bls {H : Hp} : ∀ {xs : List Bool} {vs : List V}, Paired (fun x u => (pBl x).pr H u) xs vs → vs = xs.map V.bl
  | _, _, .nil => rfl
  | _, _, .cons r t => by rw [List.map_cons, ← paired_bls t]; exact congrArg (· :: _) r
theorem ints_paired {H : Hp} : ∀ xs : List Int, Paired (fun x u => (pInt x).pr H u) xs (xs.map V.int)
  | [] => .nil
  | _ :: xs => .cons rfl (ints_paired xs)
theorem strs_paired {H : Hp} : ∀ xs : List Str, Paired (fun x u => (pStr x).pr H u) xs (xs.map V.str)
  | [] => .nil
  | _ :: xs => .cons rfl (strs_paired xs)
/-! ### list operations -/
section
variable {a b : Expr} {pos : Pos} {β1 β2 α : Type} {T : Option γ} {k1 : β1 → Option γ} {Δ1 : β1 → Δs} {Δ2 : β1 → β2 → Δs} {E1 : β1 → Pd} {Ee : α → Pd} {xs : β1 → β2 → List α} {j : β1 → β2 → Int}
/-- xs[i] -/
theorem x_ixL {k : (β1 × β2) × α → Option γ} (ha : PE X a (tE W F Γ Δ T k1 E1 Δ1)) (hb : ∀ b1, PE X b (tE W F Γ (Δ1 b1) (k1 b1) (fun b2 => (atI (xs b1 b2) (j b1 b2)).bind fun x => k ((b1, b2), x)) (fun b => pInt (j b1 b)) (Δ2 b1)))
    (rd : ∀ b1 b2, RdL (Δ2 b1 b2) (E1 b1) Ee (xs b1 b2)) (hs : PlainIx b := by exact fun _ _ => rfl) : PE X (.Subscript a b pos) (tE W F Γ Δ T k (fun b => Ee b.2) fun b => Δ2 b.1.1 b.1.2) :=
  x2p (b_ix ix_list hs) ha hb fun b1 b2 x σ v w H Q ok e hv hw q => by
    obtain ⟨p, vs, ev, sq, _, pr⟩ := (rd b1 b2 F H v ok.hk hv).sq (K := X.K)
    obtain ⟨u, eu, pu⟩ := paired_atI pr e
    exact ⟨p, vs, j b1 b2, u, ev, hw, sq, eu, q u pu⟩
end
section
variable {a : Expr} {pos p : Pos} {β α : Type} {T : Option γ} {Δ1 : β → Δs} {E1 : β → Pd} {Ee : α → Pd} {xs : β → List α} {k : β → Option γ}
/-- len(xs) -/
theorem x_lenL (hm : X.mg "len" = none) (ha : PE X a (tE W F Γ Δ T k E1 Δ1)) (rd : ∀ b, RdL (Δ1 b) (E1 b) Ee (xs b)) (hg : Gl X "len" := by rfl) (hs : starEach [a] X.env = (false, eval a X.env) :: starEach [] X.env := by rfl) : PE X (.Call (.Name "len" p) [a] [] pos) (tE W F Γ Δ T k (fun b => pInt ((xs b).length : Int)) Δ1) :=
  x1t (u_callB call_len_seq hg hm PySem.boot_len (by decide) (by decide) hs) ha fun b σ v H Q ok hv q => by
    obtain ⟨p, vs, ev, sq, _, pr⟩ := (rd b F H v ok.hk hv).sq (K := X.K)
    rw [ev]
    exact ⟨p, vs, rfl, .inl sq, by rw [← paired_len pr]; exact q _ rfl⟩
/-- int(n) -/
theorem x_intI {i : β → Int} (hm : X.mg "int" = none) (ha : PE X a (tE W F Γ Δ T k (fun b => pInt (i b)) Δ1)) (hg : Gl X "int" := by rfl) (hs : starEach [a] X.env = (false, eval a X.env) :: starEach [] X.env := by rfl) : PE X (.Call (.Name "int" p) [a] [] pos) (tE W F Γ Δ T k (fun b => pInt (i b)) Δ1) :=
  x1t (u_callTy call_int1 hg hm (by decide +kernel) (by decide) (by decide) hs) ha fun b σ v H Q ok hv q => .inl ⟨i b, by rw [show v = .int (i b) from hv], q _ rfl⟩
theorem x_intB {c : β → Bool} (hm : X.mg "int" = none) (ha : PE X a (tE W F Γ Δ T k (fun b => pBl (c b)) Δ1)) (hg : Gl X "int" := by rfl) (hs : starEach [a] X.env = (false, eval a X.env) :: starEach [] X.env := by rfl) : PE X (.Call (.Name "int" p) [a] [] pos) (tE W F Γ Δ T k (fun b => pInt (if c b then 1 else 0)) Δ1) :=
  x1t (u_callTy call_int1 hg hm (by decide +kernel) (by decide) (by decide) hs) ha fun b σ v H Q ok hv q => .inr ⟨c b, by rw [show v = .bl (c b) from hv], q _ rfl⟩
/-- list(xs) -/
theorem x_listL (hm : X.mg "list" = none) (ha : PE X a (tE W F Γ Δ T k E1 Δ1)) (rd : ∀ b, RdL (Δ1 b) (E1 b) Ee (xs b)) (hg : Gl X "list" := by rfl) (hs : starEach [a] X.env = (false, eval a X.env) :: starEach [] X.env := by rfl) : PE X (.Call (.Name "list" p) [a] [] pos) (tO W F Γ Δ T k (fun b => oL Ee (xs b)) Δ1) :=
  x1n (u_callTy call_list_of hg hm (by decide +kernel) (by decide) (by decide) hs) ha fun b σ v H Q ok hv q => by
    obtain ⟨p, vs, ev, sq, z, pr⟩ := (rd b F H v ok.hk hv).sq (K := X.K)
    rw [ev]
    exact ⟨p, vs, rfl, .inl sq, fun l hl => q l vs hl z pr⟩
end
/-! ### stores -/
section
variable {N : Fn γ} {rest : List Stmt}
/-- xs[i] = e -/
theorem s_setL {o i e : Expr} {pos pos' : Pos} {β0 β1 β2 α : Type} {T : Option γ} {k0 : β0 → Option γ} {k1 : β0 → β1 → Option γ} {k : (β0 × β1) × β2 → Option γ} {Δ0 : β0 → Δs} {Δ1 : β0 → β1 → Δs} {Δ2 : β0 → β1 → β2 → Δs} {Ee : α → Pd} {y : β0 → α} {n : β0 → β1 → β2 → Int} {xs : β0 → β1 → β2 → List α} {G : List Addr} {v : V} {prm : Bool} (j : Nat)
    (he : PE X e (tE (cellsOf Δ) F Γ Δ T k0 (fun b => Ee (y b)) Δ0)) (ho : ∀ b0, PE X o (tE (cellsOf Δ) F Γ (Δ0 b0) (k0 b0) (k1 b0) (fun _ => pV v) (Δ1 b0)))
    (hi : ∀ b0 b1, PE X i (tE (cellsOf Δ) F Γ (Δ1 b0 b1) (k1 b0 b1) (fun b2 => (ixN (xs b0 b1 b2).length (n b0 b1 b2)).bind fun m => (fun (_ : Nat) => k ((b0, b1), b2)) m) (fun b2 => pInt (n b0 b1 b2)) (Δ2 b0 b1)))
    (hj : ∀ b0 b1 b2, (Δ2 b0 b1 b2)[j]? = some ⟨G, v, oL Ee (xs b0 b1 b2), prm⟩)
    (hr : ∀ b : (β0 × β1) × β2, PSs X rest (tS F Γ ((Δ2 b.1.1 b.1.2 b.2).set j ⟨G, v, oL Ee ((xs b.1.1 b.1.2 b.2).set ((ixN (xs b.1.1 b.1.2 b.2).length (n b.1.1 b.1.2 b.2)).getD 0) (y b.1.1)), prm⟩) N (k b)))
    (hs : swapsWithSole [.Subscript o i pos'] e pos.line X.env = pure false := by rfl) (hw : swappedStores [.Subscript o i pos'] e X.env = pure none := by rfl) (h1 : (assignEach [.Subscript o i pos'] X.env).map (·.2) = [assign (.Subscript o i pos') X.env] := by rfl)
    (ha : ∀ v, assign (.Subscript o i pos') X.env v = (do
      let ov ← holding [v] (eval o X.env)
      let iv ← holding [v, ov] (eval i X.env)
      standAt pos'
      holding [v, ov, iv] (setItem ov iv v)
      release [v, ov, iv] []) := by intro _; rfl) :
    PSs X (.Assign [.Subscript o i pos'] e pos :: rest) (tS F Γ Δ N T) :=
  (pss_cons (ps_asg he (pg_sub (pe_ex ho) (pe_ex fun b0 => pe_ex fun b1 => hi b0 b1) set_list ha) hs hw h1) (pss_ex hr)).wk fun D σ H ⟨ok, g, e, f⟩ => ⟨ok, g, e, fun b0 u H0 kb0 f0 ok0 hu => ⟨b0, ok0, g, kb0, fun b1 w H1 kb1 f1 ok1 hw => ⟨b0, b1, ok1, g, kb1, fun b2 z H2 kb2 f2 ok2 hz => by
    obtain ⟨m, em, km⟩ := bind_some kb2
    have hw : w = v := hw
    have hz : z = .int (n b0 b1 b2) := hz
    subst hw hz
    obtain ⟨p, vs, eG, ev, hp, zz, pr⟩ := ok2.hk.del _ (cell_mem (hj b0 b1 b2))
    refine ⟨p, vs, n b0 b1 b2, m, ev, rfl, hp, by rw [← paired_len pr]; exact em, ((b0, b1), b2), ?_⟩
    have hu2 : (Ee (y b0)).pr H2 u := (Ee (y b0)).mono (f1.fz.trans f2.fz) hu
    have fzm : Fzs H2 (upd H2 p (.lst (vs.set m u))) := Fzs.mut hp fun z => z
    obtain ⟨ok3, f3⟩ := ok2.turn (H' := upd H2 p (.lst (vs.set m u))) (d' := oL Ee ((xs b0 b1 b2).set m (y b0))) (hj b0 b1 b2) (fun a o na e => by
      rw [upd_ne fun q => na (by
        show a ∈ G
        have eG : G = [p] := eG
        rw [eG, q]; exact List.mem_singleton.mpr rfl)]
      exact e) ⟨p, vs.set m u, eG, ev, upd_same, by rw [List.length_set]; exact zz, paired_set (P := fun x q => (Ee x).pr (upd H2 p (.lst (vs.set m u))) q) ((Ee _).mono fzm hu2) m (paired_mono (fun x _ => (Ee x).mono fzm) pr)⟩
    have em2 : (ixN (xs b0 b1 b2).length (n b0 b1 b2)).getD 0 = m := by rw [em]; rfl
    show tS F Γ _ N (k ((b0, b1), b2)) D σ _
    rw [em2]
    exact ⟨ok3, g, km, N.mono f (((f0.fz.trans f1.fz).trans f2.fz).trans f3)⟩⟩⟩⟩
end
end
end L3
end
section
set_option Elab.async false
set_option linter.all false
set_option maxRecDepth 100000
set_option maxHeartbeats 4000000
namespace L3
open PySem PySem.Spec PyProof.Rows L2
theorem start_gam {H : Hp} : ∀ {ps : List Pd} {vs : List V} {m : Nat}, Paired (fun p v => Pd.pr p H v) ps vs → ∀ (i : Nat) (p : Pd), (ps.map some ++ List.replicate m none)[i]? = some (some p) → ∃ v, (vs.map some ++ List.replicate m none)[i]? = some (some v) ∧ p.pr H v
  | [], _, m, .nil, i, p, e => by
    have e : (List.replicate m (none : Option Pd))[i]? = some (some p) := e
    rw [List.getElem?_replicate] at e
    split at e <;> cases e
  | _ :: _, _ :: _, m, .cons r t, 0, p, e => by
    have e : some (some _) = some (some p) := e
    cases e
    exact ⟨_, rfl, r⟩
  | _ :: _, _ :: _, m, .cons r t, i + 1, p, e => start_gam t i p e
theorem ok_start {ps : List Pd} {vs : List V} {N : List Str} {H : Hp} {M : List Addr} {Δ : Δs} {n : Nat} (hn : vs.length = n) (h : Paired (fun p v => Pd.pr p H v) ps vs) (hd : ∀ c ∈ Δ, c.d.pr c.G H c.v) (nd : (cellsOf Δ).Nodup) (hm : M = cellsOf Δ) (hp : ∀ c ∈ Δ, c.prm = true) :
    Ok ⟨H, M⟩ (ps.map some ++ List.replicate (N.length - n) none) Δ (L2.start N vs) H := by
  subst hn
  refine ⟨⟨fun _ _ e _ => e, hd, nd, fun c hc a ha => .inr ⟨hp c hc, by show a ∈ M; rw [hm]; exact mem_cellsOf hc ha⟩, fun a ha => ?_⟩, ?_, fun i p e => start_gam h i p e⟩
  · have ha : a ∈ M := ha
    rw [hm] at ha
    obtain ⟨c, hc, ha⟩ := List.mem_flatMap.mp ha
    obtain ⟨o, e, _⟩ := c.d.cellsN (hd c hc) a ha
    exact ⟨o, e⟩
  · unfold L2.start
    rw [List.length_append, List.length_append, List.length_map, List.length_map, List.length_replicate, List.length_replicate, paired_len h]
theorem Hk.add' {F : Fm} {Δ : Δs} {H : Hp} (k : Hk F Δ H) {G : List Addr} {v : V} {d : Od} (nd : G.Nodup) (nw : ∀ a ∈ G, a ∉ cellsOf Δ) (h : d.pr G H v) (h0 : ∀ a ∈ G, F.H0 a = none) : Hk F (⟨G, v, d, false⟩ :: Δ) H := by
  refine ⟨k.base, fun c hc => ?_, ?_, fun c hc a ha => ?_, k.mem⟩
  · rcases List.mem_cons.mp hc with e | hc
    · subst e; exact h
    · exact k.del c hc
  · show (List.flatMap Cell.G (_ :: Δ)).Nodup
    rw [List.flatMap_cons]
    refine List.nodup_append.mpr ⟨nd, k.nod, fun a ha b hb e => ?_⟩
    subst e
    exact nw a ha hb
  · rcases List.mem_cons.mp hc with e | hc
    · subst e; exact .inl (h0 a ha)
    · exact k.own c hc a ha
section
variable {F : Fm} {Γ : Gm} {Δ : Δs} {σ : SS} {H H' : Hp} {W : List Addr}
theorem call_f0 (ok : Ok F Γ Δ σ H) (hk : Hk ⟨H, []⟩ [] H') : Ok F Γ Δ σ H' ∧ St W H H' := by
  have g : Gr H H' := fun a o e => hk.base a o e List.not_mem_nil
  exact ⟨ok.gr g, g.st⟩
theorem call_o0 {G : List Addr} {v : V} {d : Od} (ok : Ok F Γ Δ σ H) (hk : Hk ⟨H, []⟩ [⟨G, v, d, false⟩] H') : Ok F Γ (⟨G, v, d, false⟩ :: Δ) σ H' ∧ St W H H' ∧ ∀ a ∈ G, H a = none := by
  have g : Gr H H' := fun a o e => hk.base a o e List.not_mem_nil
  have nw : ∀ a ∈ G, H a = none := fun a ha => by
    rcases hk.own _ (List.mem_singleton.mpr rfl) a ha with z | z
    · exact z
    · cases z.1
  have nd : G.Nodup := by
    have := hk.nod
    unfold cellsOf at this
    rw [List.flatMap_cons] at this
    exact (List.nodup_append.mp this).1
  have ok' := ok.gr g
  exact ⟨⟨ok.hk.add g nd nw (hk.del _ (List.mem_singleton.mpr rfl)), ok'.len, ok'.gam⟩, g.st, nw⟩
theorem call_f1 {G : List Addr} {v : V} {d d' : Od} {prm : Bool} {j : Nat} (ok : Ok F Γ Δ σ H) (hj : Δ[j]? = some ⟨G, v, d, prm⟩) (hW : ∀ a ∈ G, a ∈ W) (hk : Hk ⟨H, G⟩ [⟨G, v, d', true⟩] H') : Ok F Γ (Δ.set j ⟨G, v, d', prm⟩) σ H' ∧ St W H H' := by
  obtain ⟨o, f⟩ := ok.turn (d' := d') hj (fun a o na e => hk.base a o e na) (hk.del _ (List.mem_singleton.mpr rfl))
  refine ⟨o, f, fun a o n e => hk.base a o e fun z => n (hW a z), fun a o e => ?_⟩
  by_cases h : a ∈ G
  · obtain ⟨u, q, _⟩ := d'.cellsN (hk.del _ (List.mem_singleton.mpr rfl)) a h
    exact ⟨u, q⟩
  · exact ⟨o, hk.base a o e h⟩
theorem call_o1 {G G2 : List Addr} {v v2 : V} {d d' d2 : Od} {prm : Bool} {j : Nat} (ok : Ok F Γ Δ σ H) (hj : Δ[j]? = some ⟨G, v, d, prm⟩) (hW : ∀ a ∈ G, a ∈ W) (hk : Hk ⟨H, G⟩ [⟨G2, v2, d2, false⟩, ⟨G, v, d', true⟩] H') : Ok F Γ (⟨G2, v2, d2, false⟩ :: Δ.set j ⟨G, v, d', prm⟩) σ H' ∧ St W H H' ∧ ∀ a ∈ G2, H a = none := by
  have m1 : (⟨G2, v2, d2, false⟩ : Cell) ∈ [⟨G2, v2, d2, false⟩, ⟨G, v, d', true⟩] := List.mem_cons_self
  have m2 : (⟨G, v, d', true⟩ : Cell) ∈ [⟨G2, v2, d2, false⟩, ⟨G, v, d', true⟩] := List.mem_cons_of_mem _ (List.mem_singleton.mpr rfl)
  have nw : ∀ a ∈ G2, H a = none := fun a ha => by
    rcases hk.own _ m1 a ha with z | z
    · exact z
    · cases z.1
  have nd : G2.Nodup := by
    have := hk.nod
    unfold cellsOf at this
    rw [List.flatMap_cons] at this
    exact (List.nodup_append.mp this).1
  obtain ⟨o, s⟩ := call_f1 (W := W) (d' := d') ok hj hW (hk.less (.cons _ (List.Sublist.refl _)))
  refine ⟨⟨o.hk.add' nd (fun a ha hc => ?_) (hk.del _ m1) fun a ha => ok.hk.fresh0 (nw a ha), o.len, o.gam⟩, s, nw⟩
  rw [flat_set (c := ⟨G, v, d, prm⟩) (c' := ⟨G, v, d', prm⟩) rfl hj] at hc
  obtain ⟨u, e, _⟩ := ok.hk.isC hc
  rw [nw a ha] at e
  cases e
end
end L3
end
section
set_option Elab.async false
set_option linter.all false
set_option maxRecDepth 100000
set_option maxHeartbeats 4000000
namespace L3
open PySem PySem.Spec PyProof.Rows L2
theorem St.fresh {W G : List Addr} {H H1 H2 : Hp} (a : St W H H1) (b : St (G ++ W) H1 H2) (n : ∀ x ∈ G, H x = none) : St W H H2 :=
  ⟨a.fz.trans b.fz, fun x o w h => b.kp x o (fun z => by
    rcases List.mem_append.mp z with z | z
    · rw [n x z] at h; cases h
    · exact w z) (a.kp x o w h), fun x o h => by
    obtain ⟨u, e⟩ := a.dom x o h
    exact b.dom x u e⟩
theorem Hk.ndup0 {F : Fm} {c : Cell} {Δ : Δs} {H : Hp} (k : Hk F (c :: Δ) H) : c.G.Nodup := by
  have h := k.nod
  unfold cellsOf at h
  rw [List.flatMap_cons] at h
  exact (List.nodup_append.mp h).1
def Sp_FFF_f {α1 α2 α3 ρ : Type} (E1 : α1 → Pd) (E2 : α2 → Pd) (E3 : α3 → Pd) (Mf : α1 → α2 → α3 → Option (ρ)) (Rp : ρ → Pd) : Sp := fun vs H Q _ => ∃ (v1 v2 v3 : V)  (a1 : α1) (a2 : α2) (a3 : α3), vs = [v1, v2, v3] ∧ (E1 a1).pr H v1 ∧ (E2 a2).pr H v2 ∧ (E3 a3).pr H v3 ∧ ∃ r, Mf a1 a2 a3 = some r ∧ RF ⟨H, []⟩ (fun _ => []) (Rp) r Q
theorem fn_FFF_f {P : Program} {w : World} {K : PySem.W.Frag} {mg : Str → Option Value} {base : Heap} {x qual : Str} {params : Arguments} {body : List Stmt} {scope : Scope} {dvs : List V} {kws : List (Str × V)} {f : Addr} {fd : FuncData} {N ps : List Str} {k : Nat} {α1 α2 α3 ρ : Type} {E1 : α1 → Pd} {E2 : α2 → Pd} {E3 : α3 → Pd} {Mf : α1 → α2 → α3 → Option (ρ)} {Rp : ρ → Pd}
    (FD : FunD K x qual params body scope dvs kws f fd) (S : FnScope N ps scope) (hl : 3 = ps.length)
    (hb : ∀ (cdv : Value) (A : Around) (outer : List Env) (s : Shared) (H : Hp) (E : XK) (hr : Room k (A.deeper (envOfC qual scope s.heap.objs.size f cdv)))  (a1 : α1) (a2 : α2) (a3 : α3), PSs (cxOf CX0 P w K mg base N qual scope f cdv A outer s H E).nox body
      (tS ⟨H, []⟩ (([E1 a1, E2 a2, E3 a3] : List Pd).map some ++ List.replicate (N.length - 3) none) [] (fF (RF ⟨H, []⟩ (fun _ => []) (Rp))) (Mf a1 a2 a3))) : FnOk P w K mg base CX0 (k + 1) f fd ps (Sp_FFF_f E1 E2 E3 Mf Rp) := by
  refine FD.ok S (fun vs H Q E h => ?_) (fun cdv A outer s H vs Q E hr h => ?_)
  · obtain ⟨v1, v2, v3, a1, a2, a3, rfl, _⟩ := h
    exact hl
  · obtain ⟨v1, v2, v3, a1, a2, a3, rfl, p1, p2, p3, r, hM, fin⟩ := h
    refine ⟨_, PSs.nox (hb cdv A outer s H E hr  a1 a2 a3), ok_start rfl (.cons p1 (.cons p2 (.cons p3 (.nil)))) ?_ ?_ rfl ?_, r, hM, fin⟩
    · exact fun _ h => nomatch h
    · exact List.nodup_nil
    · exact fun _ h => nomatch h
theorem x_FFF_f {X : Cx} {W : List Addr} {F : Fm} {Γ : Gm} {Δ : Δs} {γ : Type} {x : Str} {p pos : Pos} {e1 e2 e3 : Expr} {f : Addr} {fd : FuncData} {ps : List Str} {kk : Nat} {α1 α2 α3 ρ β1 β2 β3 : Type} {E1 : α1 → Pd} {E2 : α2 → Pd} {E3 : α3 → Pd} {Mf : α1 → α2 → α3 → Option (ρ)} {Rp : ρ → Pd} {T : Option γ} {Δ1 : β1 → Δs} {x1 : β1 → α1} {k1 : β1 → Option γ} {Δ2 : β1 → β2 → Δs} {x2 : β1 → β2 → α2} {k2 : β1 → β2 → Option γ} {Δ3 : β1 → β2 → β3 → Δs} {x3 : β1 → β2 → β3 → α3} {k : (β1 × β2 × β3) × (ρ) → Option γ}
    (G : FnOk X.prog X.w X.K X.mg X.base CX0 kk f fd ps (Sp_FFF_f E1 E2 E3 Mf Rp)) (hr : Room kk X.A) (hm : X.mg x = some (.ref f)) (hk : PySem.W.keepIn X.K (.ref f) = true) (hb : Binds X.K fd ps []) (h1 : PE X e1 (tE W F Γ Δ T (k1) (fun b1 => E1 (x1 b1)) (Δ1))) (h2 : ∀ b1, PE X e2 (tE W F Γ (Δ1 b1) (k1 b1) (k2 b1) (fun b2 => E2 (x2 b1 b2)) (Δ2 b1))) (h3 : ∀ b1 b2, PE X e3 (tE W F Γ (Δ2 b1 b2) (k2 b1 b2) (fun b3 => (Mf (x1 b1) (x2 b1 b2) (x3 b1 b2 b3)).bind fun r => k ((b1, b2, b3), r)) (fun b3 => E3 (x3 b1 b2 b3)) (Δ3 b1 b2)))
     (hg : Gl X x := by rfl) (hdb : (x == ("__debug__" : Str)) = false := by decide) (st1 : starEach [e1, e2, e3] X.env = (false, eval e1 X.env) :: starEach [e2, e3] X.env := by rfl) (st2 : starEach [e2, e3] X.env = (false, eval e2 X.env) :: starEach [e3] X.env := by rfl) (st3 : starEach [e3] X.env = (false, eval e3 X.env) :: starEach [] X.env := by rfl) (hpl : (backTo pos (starEach [e2, e3] X.env)).any (·.1) = false := by rfl) :
    PE X (.Call (.Name x p) [e1, e2, e3] [] pos) (tE W F Γ Δ T k (fun b => Rp b.2) fun b => Δ3 b.1.1 b.1.2.1 b.1.2.2) :=
  (pe_call G hr hg hm hk hb .nil pass0 (pa_cons h1 (pa_cons (pe_ex fun b1 => h2 b1) (pa_cons (pe_ex fun b1 => pe_ex fun b2 => h3 b1 b2) pa_nil st3) st2) st1) hdb st1 hpl).wk fun σ H Q ⟨ok, g, e, q⟩ => ⟨ok, g, e, fun b1 v1 H1 kb1 f1 ok1 hv1 => ⟨b1, ok1, g, kb1, fun b2 v2 H2 kb2 f2 ok2 hv2 => ⟨b1, b2, ok2, g, kb2, fun b3 v3 H3 kb3 f3 ok3 hv3 => by
    obtain ⟨r, er, kr⟩ := bind_some kb3
    refine ⟨v1, v2, v3, x1 b1, x2 b1 b2, x3 b1 b2 b3, rfl, ((E1 _).mono (f2.fz.trans f3.fz) hv1), ((E2 _).mono f3.fz hv2), hv3, r, er, fun v H' hk hv => ?_⟩
    obtain ⟨ok', st⟩ := call_f0 (W := W) ok3 hk
    exact q ((b1, b2, b3), r) v H' kr (((f1.trans f2).trans f3).trans st) ok' hv⟩⟩⟩
def Sp_FF_f {α1 α2 ρ : Type} (E1 : α1 → Pd) (E2 : α2 → Pd) (Mf : α1 → α2 → Option (ρ)) (Rp : ρ → Pd) : Sp := fun vs H Q _ => ∃ (v1 v2 : V)  (a1 : α1) (a2 : α2), vs = [v1, v2] ∧ (E1 a1).pr H v1 ∧ (E2 a2).pr H v2 ∧ ∃ r, Mf a1 a2 = some r ∧ RF ⟨H, []⟩ (fun _ => []) (Rp) r Q
theorem fn_FF_f {P : Program} {w : World} {K : PySem.W.Frag} {mg : Str → Option Value} {base : Heap} {x qual : Str} {params : Arguments} {body : List Stmt} {scope : Scope} {dvs : List V} {kws : List (Str × V)} {f : Addr} {fd : FuncData} {N ps : List Str} {k : Nat} {α1 α2 ρ : Type} {E1 : α1 → Pd} {E2 : α2 → Pd} {Mf : α1 → α2 → Option (ρ)} {Rp : ρ → Pd}
    (FD : FunD K x qual params body scope dvs kws f fd) (S : FnScope N ps scope) (hl : 2 = ps.length)
    (hb : ∀ (cdv : Value) (A : Around) (outer : List Env) (s : Shared) (H : Hp) (E : XK) (hr : Room k (A.deeper (envOfC qual scope s.heap.objs.size f cdv)))  (a1 : α1) (a2 : α2), PSs (cxOf CX0 P w K mg base N qual scope f cdv A outer s H E).nox body
      (tS ⟨H, []⟩ (([E1 a1, E2 a2] : List Pd).map some ++ List.replicate (N.length - 2) none) [] (fF (RF ⟨H, []⟩ (fun _ => []) (Rp))) (Mf a1 a2))) : FnOk P w K mg base CX0 (k + 1) f fd ps (Sp_FF_f E1 E2 Mf Rp) := by
  refine FD.ok S (fun vs H Q E h => ?_) (fun cdv A outer s H vs Q E hr h => ?_)
  · obtain ⟨v1, v2, a1, a2, rfl, _⟩ := h
    exact hl
  · obtain ⟨v1, v2, a1, a2, rfl, p1, p2, r, hM, fin⟩ := h
    refine ⟨_, PSs.nox (hb cdv A outer s H E hr  a1 a2), ok_start rfl (.cons p1 (.cons p2 (.nil))) ?_ ?_ rfl ?_, r, hM, fin⟩
    · exact fun _ h => nomatch h
    · exact List.nodup_nil
    · exact fun _ h => nomatch h
theorem x_FF_f {X : Cx} {W : List Addr} {F : Fm} {Γ : Gm} {Δ : Δs} {γ : Type} {x : Str} {p pos : Pos} {e1 e2 : Expr} {f : Addr} {fd : FuncData} {ps : List Str} {kk : Nat} {α1 α2 ρ β1 β2 : Type} {E1 : α1 → Pd} {E2 : α2 → Pd} {Mf : α1 → α2 → Option (ρ)} {Rp : ρ → Pd} {T : Option γ} {Δ1 : β1 → Δs} {x1 : β1 → α1} {k1 : β1 → Option γ} {Δ2 : β1 → β2 → Δs} {x2 : β1 → β2 → α2} {k : (β1 × β2) × (ρ) → Option γ}
    (G : FnOk X.prog X.w X.K X.mg X.base CX0 kk f fd ps (Sp_FF_f E1 E2 Mf Rp)) (hr : Room kk X.A) (hm : X.mg x = some (.ref f)) (hk : PySem.W.keepIn X.K (.ref f) = true) (hb : Binds X.K fd ps []) (h1 : PE X e1 (tE W F Γ Δ T (k1) (fun b1 => E1 (x1 b1)) (Δ1))) (h2 : ∀ b1, PE X e2 (tE W F Γ (Δ1 b1) (k1 b1) (fun b2 => (Mf (x1 b1) (x2 b1 b2)).bind fun r => k ((b1, b2), r)) (fun b2 => E2 (x2 b1 b2)) (Δ2 b1)))
     (hg : Gl X x := by rfl) (hdb : (x == ("__debug__" : Str)) = false := by decide) (st1 : starEach [e1, e2] X.env = (false, eval e1 X.env) :: starEach [e2] X.env := by rfl) (st2 : starEach [e2] X.env = (false, eval e2 X.env) :: starEach [] X.env := by rfl) (hpl : (backTo pos (starEach [e2] X.env)).any (·.1) = false := by rfl) :
    PE X (.Call (.Name x p) [e1, e2] [] pos) (tE W F Γ Δ T k (fun b => Rp b.2) fun b => Δ2 b.1.1 b.1.2) :=
  (pe_call G hr hg hm hk hb .nil pass0 (pa_cons h1 (pa_cons (pe_ex fun b1 => h2 b1) pa_nil st2) st1) hdb st1 hpl).wk fun σ H Q ⟨ok, g, e, q⟩ => ⟨ok, g, e, fun b1 v1 H1 kb1 f1 ok1 hv1 => ⟨b1, ok1, g, kb1, fun b2 v2 H2 kb2 f2 ok2 hv2 => by
    obtain ⟨r, er, kr⟩ := bind_some kb2
    refine ⟨v1, v2, x1 b1, x2 b1 b2, rfl, ((E1 _).mono f2.fz hv1), hv2, r, er, fun v H' hk hv => ?_⟩
    obtain ⟨ok', st⟩ := call_f0 (W := W) ok2 hk
    exact q ((b1, b2), r) v H' kr ((f1.trans f2).trans st) ok' hv⟩⟩
def Sp_FF_o {α1 α2 ρ : Type} (E1 : α1 → Pd) (E2 : α2 → Pd) (Mf : α1 → α2 → Option (ρ)) (Rp : ρ → Od) : Sp := fun vs H Q _ => ∃ (v1 v2 : V)  (a1 : α1) (a2 : α2), vs = [v1, v2] ∧ (E1 a1).pr H v1 ∧ (E2 a2).pr H v2 ∧ ∃ r, Mf a1 a2 = some r ∧ RO ⟨H, []⟩ (fun _ => []) (Rp) r Q
theorem fn_FF_o {P : Program} {w : World} {K : PySem.W.Frag} {mg : Str → Option Value} {base : Heap} {x qual : Str} {params : Arguments} {body : List Stmt} {scope : Scope} {dvs : List V} {kws : List (Str × V)} {f : Addr} {fd : FuncData} {N ps : List Str} {k : Nat} {α1 α2 ρ : Type} {E1 : α1 → Pd} {E2 : α2 → Pd} {Mf : α1 → α2 → Option (ρ)} {Rp : ρ → Od}
    (FD : FunD K x qual params body scope dvs kws f fd) (S : FnScope N ps scope) (hl : 2 = ps.length)
    (hb : ∀ (cdv : Value) (A : Around) (outer : List Env) (s : Shared) (H : Hp) (E : XK) (hr : Room k (A.deeper (envOfC qual scope s.heap.objs.size f cdv)))  (a1 : α1) (a2 : α2), PSs (cxOf CX0 P w K mg base N qual scope f cdv A outer s H E).nox body
      (tS ⟨H, []⟩ (([E1 a1, E2 a2] : List Pd).map some ++ List.replicate (N.length - 2) none) [] (fF (RO ⟨H, []⟩ (fun _ => []) (Rp))) (Mf a1 a2))) : FnOk P w K mg base CX0 (k + 1) f fd ps (Sp_FF_o E1 E2 Mf Rp) := by
  refine FD.ok S (fun vs H Q E h => ?_) (fun cdv A outer s H vs Q E hr h => ?_)
  · obtain ⟨v1, v2, a1, a2, rfl, _⟩ := h
    exact hl
  · obtain ⟨v1, v2, a1, a2, rfl, p1, p2, r, hM, fin⟩ := h
    refine ⟨_, PSs.nox (hb cdv A outer s H E hr  a1 a2), ok_start rfl (.cons p1 (.cons p2 (.nil))) ?_ ?_ rfl ?_, r, hM, fin⟩
    · exact fun _ h => nomatch h
    · exact List.nodup_nil
    · exact fun _ h => nomatch h
theorem x_FF_o {X : Cx} {W : List Addr} {F : Fm} {Γ : Gm} {Δ : Δs} {γ : Type} {x : Str} {p pos : Pos} {e1 e2 : Expr} {f : Addr} {fd : FuncData} {ps : List Str} {kk : Nat} {α1 α2 ρ β1 β2 : Type} {E1 : α1 → Pd} {E2 : α2 → Pd} {Mf : α1 → α2 → Option (ρ)} {Rp : ρ → Od} {T : Option γ} {Δ1 : β1 → Δs} {x1 : β1 → α1} {k1 : β1 → Option γ} {Δ2 : β1 → β2 → Δs} {x2 : β1 → β2 → α2} {k : (β1 × β2) × (ρ) → Option γ}
    (G : FnOk X.prog X.w X.K X.mg X.base CX0 kk f fd ps (Sp_FF_o E1 E2 Mf Rp)) (hr : Room kk X.A) (hm : X.mg x = some (.ref f)) (hk : PySem.W.keepIn X.K (.ref f) = true) (hb : Binds X.K fd ps []) (h1 : PE X e1 (tE W F Γ Δ T (k1) (fun b1 => E1 (x1 b1)) (Δ1))) (h2 : ∀ b1, PE X e2 (tE W F Γ (Δ1 b1) (k1 b1) (fun b2 => (Mf (x1 b1) (x2 b1 b2)).bind fun r => k ((b1, b2), r)) (fun b2 => E2 (x2 b1 b2)) (Δ2 b1)))
     (hg : Gl X x := by rfl) (hdb : (x == ("__debug__" : Str)) = false := by decide) (st1 : starEach [e1, e2] X.env = (false, eval e1 X.env) :: starEach [e2] X.env := by rfl) (st2 : starEach [e2] X.env = (false, eval e2 X.env) :: starEach [] X.env := by rfl) (hpl : (backTo pos (starEach [e2] X.env)).any (·.1) = false := by rfl) :
    PE X (.Call (.Name x p) [e1, e2] [] pos) (tO W F Γ Δ T k (fun b => Rp b.2) fun b => Δ2 b.1.1 b.1.2) :=
  (pe_call G hr hg hm hk hb .nil pass0 (pa_cons h1 (pa_cons (pe_ex fun b1 => h2 b1) pa_nil st2) st1) hdb st1 hpl).wk fun σ H Q ⟨ok, g, e, q⟩ => ⟨ok, g, e, fun b1 v1 H1 kb1 f1 ok1 hv1 => ⟨b1, ok1, g, kb1, fun b2 v2 H2 kb2 f2 ok2 hv2 => by
    obtain ⟨r, er, kr⟩ := bind_some kb2
    refine ⟨v1, v2, x1 b1, x2 b1 b2, rfl, ((E1 _).mono f2.fz hv1), hv2, r, er, fun v G H' hk => ?_⟩
    obtain ⟨ok', st, nw⟩ := call_o0 (W := W) ok2 hk
    exact q ((b1, b2), r) v G H' kr ((f1.trans f2).trans st) (fun a ha => (f1.trans f2).back (nw a ha)) ok'⟩⟩
def Sp_F_f {α1 ρ : Type} (E1 : α1 → Pd) (Mf : α1 → Option (ρ)) (Rp : ρ → Pd) : Sp := fun vs H Q _ => ∃ (v1 : V)  (a1 : α1), vs = [v1] ∧ (E1 a1).pr H v1 ∧ ∃ r, Mf a1 = some r ∧ RF ⟨H, []⟩ (fun _ => []) (Rp) r Q
theorem fn_F_f {P : Program} {w : World} {K : PySem.W.Frag} {mg : Str → Option Value} {base : Heap} {x qual : Str} {params : Arguments} {body : List Stmt} {scope : Scope} {dvs : List V} {kws : List (Str × V)} {f : Addr} {fd : FuncData} {N ps : List Str} {k : Nat} {α1 ρ : Type} {E1 : α1 → Pd} {Mf : α1 → Option (ρ)} {Rp : ρ → Pd}
    (FD : FunD K x qual params body scope dvs kws f fd) (S : FnScope N ps scope) (hl : 1 = ps.length)
    (hb : ∀ (cdv : Value) (A : Around) (outer : List Env) (s : Shared) (H : Hp) (E : XK) (hr : Room k (A.deeper (envOfC qual scope s.heap.objs.size f cdv)))  (a1 : α1), PSs (cxOf CX0 P w K mg base N qual scope f cdv A outer s H E).nox body
      (tS ⟨H, []⟩ (([E1 a1] : List Pd).map some ++ List.replicate (N.length - 1) none) [] (fF (RF ⟨H, []⟩ (fun _ => []) (Rp))) (Mf a1))) : FnOk P w K mg base CX0 (k + 1) f fd ps (Sp_F_f E1 Mf Rp) := by
  refine FD.ok S (fun vs H Q E h => ?_) (fun cdv A outer s H vs Q E hr h => ?_)
  · obtain ⟨v1, a1, rfl, _⟩ := h
    exact hl
  · obtain ⟨v1, a1, rfl, p1, r, hM, fin⟩ := h
    refine ⟨_, PSs.nox (hb cdv A outer s H E hr  a1), ok_start rfl (.cons p1 (.nil)) ?_ ?_ rfl ?_, r, hM, fin⟩
    · exact fun _ h => nomatch h
    · exact List.nodup_nil
    · exact fun _ h => nomatch h
theorem x_F_f {X : Cx} {W : List Addr} {F : Fm} {Γ : Gm} {Δ : Δs} {γ : Type} {x : Str} {p pos : Pos} {e1 : Expr} {f : Addr} {fd : FuncData} {ps : List Str} {kk : Nat} {α1 ρ β1 : Type} {E1 : α1 → Pd} {Mf : α1 → Option (ρ)} {Rp : ρ → Pd} {T : Option γ} {Δ1 : β1 → Δs} {x1 : β1 → α1} {k : (β1) × (ρ) → Option γ}
    (G : FnOk X.prog X.w X.K X.mg X.base CX0 kk f fd ps (Sp_F_f E1 Mf Rp)) (hr : Room kk X.A) (hm : X.mg x = some (.ref f)) (hk : PySem.W.keepIn X.K (.ref f) = true) (hb : Binds X.K fd ps []) (h1 : PE X e1 (tE W F Γ Δ T (fun b1 => (Mf (x1 b1)).bind fun r => k (b1, r)) (fun b1 => E1 (x1 b1)) (Δ1)))
     (hg : Gl X x := by rfl) (hdb : (x == ("__debug__" : Str)) = false := by decide) (st1 : starEach [e1] X.env = (false, eval e1 X.env) :: starEach [] X.env := by rfl) (hpl : (backTo pos (starEach [] X.env)).any (·.1) = false := by rfl) :
    PE X (.Call (.Name x p) [e1] [] pos) (tE W F Γ Δ T k (fun b => Rp b.2) fun b => Δ1 b.1) :=
  (pe_call G hr hg hm hk hb .nil pass0 (pa_cons h1 pa_nil st1) hdb st1 hpl).wk fun σ H Q ⟨ok, g, e, q⟩ => ⟨ok, g, e, fun b1 v1 H1 kb1 f1 ok1 hv1 => by
    obtain ⟨r, er, kr⟩ := bind_some kb1
    refine ⟨v1, x1 b1, rfl, hv1, r, er, fun v H' hk hv => ?_⟩
    obtain ⟨ok', st⟩ := call_f0 (W := W) ok1 hk
    exact q (b1, r) v H' kr (f1.trans st) ok' hv⟩
def Sp_OFF_o {α1 α2 α3 ρ : Type} (E1 : α1 → Od) (E2 : α2 → Pd) (E3 : α3 → Pd) (Mf : α1 → α2 → α3 → Option (ρ × α1)) (Rp : ρ → Od) : Sp := fun vs H Q _ => ∃ (v1 v2 v3 : V) (G1 : List Addr) (a1 : α1) (a2 : α2) (a3 : α3), vs = [v1, v2, v3] ∧ (E1 a1).pr G1 H v1 ∧ G1.Nodup ∧ (E2 a2).pr H v2 ∧ (E3 a3).pr H v3 ∧ ∃ r, Mf a1 a2 a3 = some r ∧ RO ⟨H, G1⟩ (fun r => [⟨G1, v1, E1 r.2, true⟩]) (fun r => Rp r.1) r Q
theorem fn_OFF_o {P : Program} {w : World} {K : PySem.W.Frag} {mg : Str → Option Value} {base : Heap} {x qual : Str} {params : Arguments} {body : List Stmt} {scope : Scope} {dvs : List V} {kws : List (Str × V)} {f : Addr} {fd : FuncData} {N ps : List Str} {k : Nat} {α1 α2 α3 ρ : Type} {E1 : α1 → Od} {E2 : α2 → Pd} {E3 : α3 → Pd} {Mf : α1 → α2 → α3 → Option (ρ × α1)} {Rp : ρ → Od}
    (FD : FunD K x qual params body scope dvs kws f fd) (S : FnScope N ps scope) (hl : 3 = ps.length)
    (hb : ∀ (cdv : Value) (A : Around) (outer : List Env) (s : Shared) (H : Hp) (E : XK) (hr : Room k (A.deeper (envOfC qual scope s.heap.objs.size f cdv))) (v1 : V) (G1 : List Addr) (a1 : α1) (a2 : α2) (a3 : α3), PSs (cxOf CX0 P w K mg base N qual scope f cdv A outer s H E).nox body
      (tS ⟨H, G1⟩ (([pV v1, E2 a2, E3 a3] : List Pd).map some ++ List.replicate (N.length - 3) none) [⟨G1, v1, E1 a1, true⟩] (fF (RO ⟨H, G1⟩ (fun r => [⟨G1, v1, E1 r.2, true⟩]) (fun r => Rp r.1))) (Mf a1 a2 a3))) : FnOk P w K mg base CX0 (k + 1) f fd ps (Sp_OFF_o E1 E2 E3 Mf Rp) := by
  refine FD.ok S (fun vs H Q E h => ?_) (fun cdv A outer s H vs Q E hr h => ?_)
  · obtain ⟨v1, v2, v3, G1, a1, a2, a3, rfl, _⟩ := h
    exact hl
  · obtain ⟨v1, v2, v3, G1, a1, a2, a3, rfl, p1, n1, p2, p3, r, hM, fin⟩ := h
    refine ⟨_, PSs.nox (hb cdv A outer s H E hr v1 G1 a1 a2 a3), ok_start (Δ := [⟨G1, v1, E1 a1, true⟩]) rfl (.cons rfl (.cons p2 (.cons p3 (.nil)))) ?_ ?_ (by show _ = List.flatMap Cell.G [_]; rw [List.flatMap_cons, List.flatMap_nil, List.append_nil]) ?_, r, hM, fin⟩
    · intro c hc; rw [List.mem_singleton.mp hc]; exact p1
    · show (List.flatMap Cell.G [_]).Nodup; rw [List.flatMap_cons, List.flatMap_nil, List.append_nil]; exact n1
    · intro c hc; rw [List.mem_singleton.mp hc]
theorem x_OFF_o {X : Cx} {W : List Addr} {F : Fm} {Γ : Gm} {Δ : Δs} {γ : Type} {x : Str} {p pos : Pos} {e1 e2 e3 : Expr} {f : Addr} {fd : FuncData} {ps : List Str} {kk : Nat} {α1 α2 α3 ρ β1 β2 β3 : Type} {E1 : α1 → Od} {E2 : α2 → Pd} {E3 : α3 → Pd} {Mf : α1 → α2 → α3 → Option (ρ × α1)} {Rp : ρ → Od} {T : Option γ} {Δ1 : β1 → Δs} {k1 : β1 → Option γ} {Δ2 : β1 → β2 → Δs} {x2 : β1 → β2 → α2} {k2 : β1 → β2 → Option γ} {Δ3 : β1 → β2 → β3 → Δs} {x3 : β1 → β2 → β3 → α3} {G1 : List Addr} {v1 : V} {prm : Bool} {s1 : β1 → β2 → β3 → α1} {k : (β1 × β2 × β3) × (ρ × α1) → Option γ}
    (G : FnOk X.prog X.w X.K X.mg X.base CX0 kk f fd ps (Sp_OFF_o E1 E2 E3 Mf Rp)) (hr : Room kk X.A) (hm : X.mg x = some (.ref f)) (hk : PySem.W.keepIn X.K (.ref f) = true) (hb : Binds X.K fd ps []) (j : Nat) (h1 : PE X e1 (tE W F Γ Δ T (k1) (fun b1 => pV v1) (Δ1))) (h2 : ∀ b1, PE X e2 (tE W F Γ (Δ1 b1) (k1 b1) (k2 b1) (fun b2 => E2 (x2 b1 b2)) (Δ2 b1))) (h3 : ∀ b1 b2, PE X e3 (tE W F Γ (Δ2 b1 b2) (k2 b1 b2) (fun b3 => (Mf (s1 b1 b2 b3) (x2 b1 b2) (x3 b1 b2 b3)).bind fun r => k ((b1, b2, b3), r)) (fun b3 => E3 (x3 b1 b2 b3)) (Δ3 b1 b2)))
    (hj : ∀ b1 b2 b3, (Δ3 b1 b2 b3)[j]? = some ⟨G1, v1, E1 (s1 b1 b2 b3), prm⟩) (hW : ∀ a ∈ G1, a ∈ W) (hg : Gl X x := by rfl) (hdb : (x == ("__debug__" : Str)) = false := by decide) (st1 : starEach [e1, e2, e3] X.env = (false, eval e1 X.env) :: starEach [e2, e3] X.env := by rfl) (st2 : starEach [e2, e3] X.env = (false, eval e2 X.env) :: starEach [e3] X.env := by rfl) (st3 : starEach [e3] X.env = (false, eval e3 X.env) :: starEach [] X.env := by rfl) (hpl : (backTo pos (starEach [e2, e3] X.env)).any (·.1) = false := by rfl) :
    PE X (.Call (.Name x p) [e1, e2, e3] [] pos) (tO W F Γ Δ T k (fun b => Rp b.2.1) fun b => (Δ3 b.1.1 b.1.2.1 b.1.2.2).set j ⟨G1, v1, E1 b.2.2, prm⟩) :=
  (pe_call G hr hg hm hk hb .nil pass0 (pa_cons h1 (pa_cons (pe_ex fun b1 => h2 b1) (pa_cons (pe_ex fun b1 => pe_ex fun b2 => h3 b1 b2) pa_nil st3) st2) st1) hdb st1 hpl).wk fun σ H Q ⟨ok, g, e, q⟩ => ⟨ok, g, e, fun b1 v1 H1 kb1 f1 ok1 hv1 => ⟨b1, ok1, g, kb1, fun b2 v2 H2 kb2 f2 ok2 hv2 => ⟨b1, b2, ok2, g, kb2, fun b3 v3 H3 kb3 f3 ok3 hv3 => by
    obtain ⟨r, er, kr⟩ := bind_some kb3
    have hv1 : v1 = _ := hv1
    subst hv1
    have hcell := ok3.hk.del _ (cell_mem (hj b1 b2 b3))
    have hnd : (G1).Nodup := by
      have h := ok3.hk.nod.sublist (flat_sub (List.singleton_sublist.mpr (cell_mem (hj b1 b2 b3))))
      unfold cellsOf at h
      rw [List.flatMap_cons] at h
      exact (List.nodup_append.mp h).1
    refine ⟨_, v2, v3, G1, s1 b1 b2 b3, x2 b1 b2, x3 b1 b2 b3, rfl, hcell, hnd, ((E2 _).mono f3.fz hv2), hv3, r, er, fun v G H' hk => ?_⟩
    obtain ⟨ok', st, nw⟩ := call_o1 (W := W) ok3 (hj b1 b2 b3) hW hk
    exact q ((b1, b2, b3), r) v G H' kr (((f1.trans f2).trans f3).trans st) (fun a ha => ((f1.trans f2).trans f3).back (nw a ha)) ok'⟩⟩⟩
def Sp_OF_f {α1 α2 ρ : Type} (E1 : α1 → Od) (E2 : α2 → Pd) (Mf : α1 → α2 → Option (ρ × α1)) (Rp : ρ → Pd) : Sp := fun vs H Q _ => ∃ (v1 v2 : V) (G1 : List Addr) (a1 : α1) (a2 : α2), vs = [v1, v2] ∧ (E1 a1).pr G1 H v1 ∧ G1.Nodup ∧ (E2 a2).pr H v2 ∧ ∃ r, Mf a1 a2 = some r ∧ RF ⟨H, G1⟩ (fun r => [⟨G1, v1, E1 r.2, true⟩]) (fun r => Rp r.1) r Q
theorem fn_OF_f {P : Program} {w : World} {K : PySem.W.Frag} {mg : Str → Option Value} {base : Heap} {x qual : Str} {params : Arguments} {body : List Stmt} {scope : Scope} {dvs : List V} {kws : List (Str × V)} {f : Addr} {fd : FuncData} {N ps : List Str} {k : Nat} {α1 α2 ρ : Type} {E1 : α1 → Od} {E2 : α2 → Pd} {Mf : α1 → α2 → Option (ρ × α1)} {Rp : ρ → Pd}
    (FD : FunD K x qual params body scope dvs kws f fd) (S : FnScope N ps scope) (hl : 2 = ps.length)
    (hb : ∀ (cdv : Value) (A : Around) (outer : List Env) (s : Shared) (H : Hp) (E : XK) (hr : Room k (A.deeper (envOfC qual scope s.heap.objs.size f cdv))) (v1 : V) (G1 : List Addr) (a1 : α1) (a2 : α2), PSs (cxOf CX0 P w K mg base N qual scope f cdv A outer s H E).nox body
      (tS ⟨H, G1⟩ (([pV v1, E2 a2] : List Pd).map some ++ List.replicate (N.length - 2) none) [⟨G1, v1, E1 a1, true⟩] (fF (RF ⟨H, G1⟩ (fun r => [⟨G1, v1, E1 r.2, true⟩]) (fun r => Rp r.1))) (Mf a1 a2))) : FnOk P w K mg base CX0 (k + 1) f fd ps (Sp_OF_f E1 E2 Mf Rp) := by
  refine FD.ok S (fun vs H Q E h => ?_) (fun cdv A outer s H vs Q E hr h => ?_)
  · obtain ⟨v1, v2, G1, a1, a2, rfl, _⟩ := h
    exact hl
  · obtain ⟨v1, v2, G1, a1, a2, rfl, p1, n1, p2, r, hM, fin⟩ := h
    refine ⟨_, PSs.nox (hb cdv A outer s H E hr v1 G1 a1 a2), ok_start (Δ := [⟨G1, v1, E1 a1, true⟩]) rfl (.cons rfl (.cons p2 (.nil))) ?_ ?_ (by show _ = List.flatMap Cell.G [_]; rw [List.flatMap_cons, List.flatMap_nil, List.append_nil]) ?_, r, hM, fin⟩
    · intro c hc; rw [List.mem_singleton.mp hc]; exact p1
    · show (List.flatMap Cell.G [_]).Nodup; rw [List.flatMap_cons, List.flatMap_nil, List.append_nil]; exact n1
    · intro c hc; rw [List.mem_singleton.mp hc]
theorem x_OF_f {X : Cx} {W : List Addr} {F : Fm} {Γ : Gm} {Δ : Δs} {γ : Type} {x : Str} {p pos : Pos} {e1 e2 : Expr} {f : Addr} {fd : FuncData} {ps : List Str} {kk : Nat} {α1 α2 ρ β1 β2 : Type} {E1 : α1 → Od} {E2 : α2 → Pd} {Mf : α1 → α2 → Option (ρ × α1)} {Rp : ρ → Pd} {T : Option γ} {Δ1 : β1 → Δs} {k1 : β1 → Option γ} {Δ2 : β1 → β2 → Δs} {x2 : β1 → β2 → α2} {G1 : List Addr} {v1 : V} {prm : Bool} {s1 : β1 → β2 → α1} {k : (β1 × β2) × (ρ × α1) → Option γ}
    (G : FnOk X.prog X.w X.K X.mg X.base CX0 kk f fd ps (Sp_OF_f E1 E2 Mf Rp)) (hr : Room kk X.A) (hm : X.mg x = some (.ref f)) (hk : PySem.W.keepIn X.K (.ref f) = true) (hb : Binds X.K fd ps []) (j : Nat) (h1 : PE X e1 (tE W F Γ Δ T (k1) (fun b1 => pV v1) (Δ1))) (h2 : ∀ b1, PE X e2 (tE W F Γ (Δ1 b1) (k1 b1) (fun b2 => (Mf (s1 b1 b2) (x2 b1 b2)).bind fun r => k ((b1, b2), r)) (fun b2 => E2 (x2 b1 b2)) (Δ2 b1)))
    (hj : ∀ b1 b2, (Δ2 b1 b2)[j]? = some ⟨G1, v1, E1 (s1 b1 b2), prm⟩) (hW : ∀ a ∈ G1, a ∈ W) (hg : Gl X x := by rfl) (hdb : (x == ("__debug__" : Str)) = false := by decide) (st1 : starEach [e1, e2] X.env = (false, eval e1 X.env) :: starEach [e2] X.env := by rfl) (st2 : starEach [e2] X.env = (false, eval e2 X.env) :: starEach [] X.env := by rfl) (hpl : (backTo pos (starEach [e2] X.env)).any (·.1) = false := by rfl) :
    PE X (.Call (.Name x p) [e1, e2] [] pos) (tE W F Γ Δ T k (fun b => Rp b.2.1) fun b => (Δ2 b.1.1 b.1.2).set j ⟨G1, v1, E1 b.2.2, prm⟩) :=
  (pe_call G hr hg hm hk hb .nil pass0 (pa_cons h1 (pa_cons (pe_ex fun b1 => h2 b1) pa_nil st2) st1) hdb st1 hpl).wk fun σ H Q ⟨ok, g, e, q⟩ => ⟨ok, g, e, fun b1 v1 H1 kb1 f1 ok1 hv1 => ⟨b1, ok1, g, kb1, fun b2 v2 H2 kb2 f2 ok2 hv2 => by
    obtain ⟨r, er, kr⟩ := bind_some kb2
    have hv1 : v1 = _ := hv1
    subst hv1
    have hcell := ok2.hk.del _ (cell_mem (hj b1 b2))
    have hnd : (G1).Nodup := by
      have h := ok2.hk.nod.sublist (flat_sub (List.singleton_sublist.mpr (cell_mem (hj b1 b2))))
      unfold cellsOf at h
      rw [List.flatMap_cons] at h
      exact (List.nodup_append.mp h).1
    refine ⟨_, v2, G1, s1 b1 b2, x2 b1 b2, rfl, hcell, hnd, hv2, r, er, fun v H' hk hv => ?_⟩
    obtain ⟨ok', st⟩ := call_f1 (W := W) ok2 (hj b1 b2) hW hk
    exact q ((b1, b2), r) v H' kr ((f1.trans f2).trans st) ok' hv⟩⟩
def Sp_OF_o {α1 α2 ρ : Type} (E1 : α1 → Od) (E2 : α2 → Pd) (Mf : α1 → α2 → Option (ρ × α1)) (Rp : ρ → Od) : Sp := fun vs H Q _ => ∃ (v1 v2 : V) (G1 : List Addr) (a1 : α1) (a2 : α2), vs = [v1, v2] ∧ (E1 a1).pr G1 H v1 ∧ G1.Nodup ∧ (E2 a2).pr H v2 ∧ ∃ r, Mf a1 a2 = some r ∧ RO ⟨H, G1⟩ (fun r => [⟨G1, v1, E1 r.2, true⟩]) (fun r => Rp r.1) r Q
theorem fn_OF_o {P : Program} {w : World} {K : PySem.W.Frag} {mg : Str → Option Value} {base : Heap} {x qual : Str} {params : Arguments} {body : List Stmt} {scope : Scope} {dvs : List V} {kws : List (Str × V)} {f : Addr} {fd : FuncData} {N ps : List Str} {k : Nat} {α1 α2 ρ : Type} {E1 : α1 → Od} {E2 : α2 → Pd} {Mf : α1 → α2 → Option (ρ × α1)} {Rp : ρ → Od}
    (FD : FunD K x qual params body scope dvs kws f fd) (S : FnScope N ps scope) (hl : 2 = ps.length)
    (hb : ∀ (cdv : Value) (A : Around) (outer : List Env) (s : Shared) (H : Hp) (E : XK) (hr : Room k (A.deeper (envOfC qual scope s.heap.objs.size f cdv))) (v1 : V) (G1 : List Addr) (a1 : α1) (a2 : α2), PSs (cxOf CX0 P w K mg base N qual scope f cdv A outer s H E).nox body
      (tS ⟨H, G1⟩ (([pV v1, E2 a2] : List Pd).map some ++ List.replicate (N.length - 2) none) [⟨G1, v1, E1 a1, true⟩] (fF (RO ⟨H, G1⟩ (fun r => [⟨G1, v1, E1 r.2, true⟩]) (fun r => Rp r.1))) (Mf a1 a2))) : FnOk P w K mg base CX0 (k + 1) f fd ps (Sp_OF_o E1 E2 Mf Rp) := by
  refine FD.ok S (fun vs H Q E h => ?_) (fun cdv A outer s H vs Q E hr h => ?_)
  · obtain ⟨v1, v2, G1, a1, a2, rfl, _⟩ := h
    exact hl
  · obtain ⟨v1, v2, G1, a1, a2, rfl, p1, n1, p2, r, hM, fin⟩ := h
    refine ⟨_, PSs.nox (hb cdv A outer s H E hr v1 G1 a1 a2), ok_start (Δ := [⟨G1, v1, E1 a1, true⟩]) rfl (.cons rfl (.cons p2 (.nil))) ?_ ?_ (by show _ = List.flatMap Cell.G [_]; rw [List.flatMap_cons, List.flatMap_nil, List.append_nil]) ?_, r, hM, fin⟩
    · intro c hc; rw [List.mem_singleton.mp hc]; exact p1
    · show (List.flatMap Cell.G [_]).Nodup; rw [List.flatMap_cons, List.flatMap_nil, List.append_nil]; exact n1
    · intro c hc; rw [List.mem_singleton.mp hc]
theorem x_OF_o {X : Cx} {W : List Addr} {F : Fm} {Γ : Gm} {Δ : Δs} {γ : Type} {x : Str} {p pos : Pos} {e1 e2 : Expr} {f : Addr} {fd : FuncData} {ps : List Str} {kk : Nat} {α1 α2 ρ β1 β2 : Type} {E1 : α1 → Od} {E2 : α2 → Pd} {Mf : α1 → α2 → Option (ρ × α1)} {Rp : ρ → Od} {T : Option γ} {Δ1 : β1 → Δs} {k1 : β1 → Option γ} {Δ2 : β1 → β2 → Δs} {x2 : β1 → β2 → α2} {G1 : List Addr} {v1 : V} {prm : Bool} {s1 : β1 → β2 → α1} {k : (β1 × β2) × (ρ × α1) → Option γ}
    (G : FnOk X.prog X.w X.K X.mg X.base CX0 kk f fd ps (Sp_OF_o E1 E2 Mf Rp)) (hr : Room kk X.A) (hm : X.mg x = some (.ref f)) (hk : PySem.W.keepIn X.K (.ref f) = true) (hb : Binds X.K fd ps []) (j : Nat) (h1 : PE X e1 (tE W F Γ Δ T (k1) (fun b1 => pV v1) (Δ1))) (h2 : ∀ b1, PE X e2 (tE W F Γ (Δ1 b1) (k1 b1) (fun b2 => (Mf (s1 b1 b2) (x2 b1 b2)).bind fun r => k ((b1, b2), r)) (fun b2 => E2 (x2 b1 b2)) (Δ2 b1)))
    (hj : ∀ b1 b2, (Δ2 b1 b2)[j]? = some ⟨G1, v1, E1 (s1 b1 b2), prm⟩) (hW : ∀ a ∈ G1, a ∈ W) (hg : Gl X x := by rfl) (hdb : (x == ("__debug__" : Str)) = false := by decide) (st1 : starEach [e1, e2] X.env = (false, eval e1 X.env) :: starEach [e2] X.env := by rfl) (st2 : starEach [e2] X.env = (false, eval e2 X.env) :: starEach [] X.env := by rfl) (hpl : (backTo pos (starEach [e2] X.env)).any (·.1) = false := by rfl) :
    PE X (.Call (.Name x p) [e1, e2] [] pos) (tO W F Γ Δ T k (fun b => Rp b.2.1) fun b => (Δ2 b.1.1 b.1.2).set j ⟨G1, v1, E1 b.2.2, prm⟩) :=
  (pe_call G hr hg hm hk hb .nil pass0 (pa_cons h1 (pa_cons (pe_ex fun b1 => h2 b1) pa_nil st2) st1) hdb st1 hpl).wk fun σ H Q ⟨ok, g, e, q⟩ => ⟨ok, g, e, fun b1 v1 H1 kb1 f1 ok1 hv1 => ⟨b1, ok1, g, kb1, fun b2 v2 H2 kb2 f2 ok2 hv2 => by
    obtain ⟨r, er, kr⟩ := bind_some kb2
    have hv1 : v1 = _ := hv1
    subst hv1
    have hcell := ok2.hk.del _ (cell_mem (hj b1 b2))
    have hnd : (G1).Nodup := by
      have h := ok2.hk.nod.sublist (flat_sub (List.singleton_sublist.mpr (cell_mem (hj b1 b2))))
      unfold cellsOf at h
      rw [List.flatMap_cons] at h
      exact (List.nodup_append.mp h).1
    refine ⟨_, v2, G1, s1 b1 b2, x2 b1 b2, rfl, hcell, hnd, hv2, r, er, fun v G H' hk => ?_⟩
    obtain ⟨ok', st, nw⟩ := call_o1 (W := W) ok2 (hj b1 b2) hW hk
    exact q ((b1, b2), r) v G H' kr ((f1.trans f2).trans st) (fun a ha => (f1.trans f2).back (nw a ha)) ok'⟩⟩
theorem x_TFF_o {X : Cx} {W : List Addr} {F : Fm} {Γ : Gm} {Δ : Δs} {γ : Type} {x : Str} {p pos : Pos} {e1 e2 e3 : Expr} {f : Addr} {fd : FuncData} {ps : List Str} {kk : Nat} {α1 α2 α3 ρ β1 β2 β3 : Type} {E1 : α1 → Od} {E2 : α2 → Pd} {E3 : α3 → Pd} {Mf : α1 → α2 → α3 → Option (ρ × α1)} {Rp : ρ → Od} {T : Option γ} {Δ1 : β1 → Δs} {x1 : β1 → α1} {k1 : β1 → Option γ} {Δ2 : β1 → β2 → Δs} {x2 : β1 → β2 → α2} {k2 : β1 → β2 → Option γ} {Δ3 : β1 → β2 → β3 → Δs} {x3 : β1 → β2 → β3 → α3} {k : (β1 × β2 × β3) × (ρ × α1) → Option γ}
    (G : FnOk X.prog X.w X.K X.mg X.base CX0 kk f fd ps (Sp_OFF_o E1 E2 E3 Mf Rp)) (hr : Room kk X.A) (hm : X.mg x = some (.ref f)) (hk : PySem.W.keepIn X.K (.ref f) = true) (hb : Binds X.K fd ps []) (h1 : PE X e1 (tO W F Γ Δ T (k1) (fun b1 => E1 (x1 b1)) Δ1)) (h2 : ∀ b1 v G, PE X e2 (tE W F Γ (⟨G, v, E1 (x1 b1), false⟩ :: Δ1 b1) (k1 b1) (k2 b1) (fun b2 => E2 (x2 b1 b2)) (fun b2 => ⟨G, v, E1 (x1 b1), false⟩ :: Δ2 b1 b2))) (h3 : ∀ b1 v G b2, PE X e3 (tE W F Γ (⟨G, v, E1 (x1 b1), false⟩ :: Δ2 b1 b2) (k2 b1 b2) (fun b3 => (Mf (x1 b1) (x2 b1 b2) (x3 b1 b2 b3)).bind fun r => k ((b1, b2, b3), r)) (fun b3 => E3 (x3 b1 b2 b3)) (fun b3 => ⟨G, v, E1 (x1 b1), false⟩ :: Δ3 b1 b2 b3)))
    (hg : Gl X x := by rfl) (hdb : (x == ("__debug__" : Str)) = false := by decide) (st1 : starEach [e1, e2, e3] X.env = (false, eval e1 X.env) :: starEach [e2, e3] X.env := by rfl) (st2 : starEach [e2, e3] X.env = (false, eval e2 X.env) :: starEach [e3] X.env := by rfl) (st3 : starEach [e3] X.env = (false, eval e3 X.env) :: starEach [] X.env := by rfl) (hpl : (backTo pos (starEach [e2, e3] X.env)).any (·.1) = false := by rfl) :
    PE X (.Call (.Name x p) [e1, e2, e3] [] pos) (tO W F Γ Δ T k (fun b => Rp b.2.1) fun b => Δ3 b.1.1 b.1.2.1 b.1.2.2) :=
  (pe_call G hr hg hm hk hb .nil pass0 (pa_cons h1 (pa_cons (pe_ex fun b1 => pe_ex fun v => pe_ex fun G => h2 b1 v G) (pa_cons (pe_ex fun b1 => pe_ex fun v => pe_ex fun G => pe_ex fun b2 => h3 b1 v G b2) pa_nil st3) st2) st1) hdb st1 hpl).wk fun σ H Q ⟨ok, g, e, q⟩ => ⟨ok, g, e, fun b1 v1 G1 H1 kb1 f1 nw1 ok1 => ⟨b1, v1, G1, ok1, g, kb1, fun b2 v2 H2 kb2 f2 ok2 hv2 => ⟨b1, v1, G1, b2, ok2, g, kb2, fun b3 v3 H3 kb3 f3 ok3 hv3 => by
    obtain ⟨r, er, kr⟩ := bind_some kb3
    have hcell := ok3.hk.del _ List.mem_cons_self
    have hnd : (G1).Nodup := ok3.hk.ndup0
    refine ⟨v1, v2, v3, G1, x1 b1, x2 b1 b2, x3 b1 b2 b3, rfl, hcell, hnd, ((E2 _).mono f3.fz hv2), hv3, r, er, fun v G H' hk => ?_⟩
    obtain ⟨ok', st, nw⟩ := call_o1 (W := G1 ++ W) ok3 (j := 0) rfl (fun a ha => List.mem_append_left _ ha) hk
    exact q ((b1, b2, b3), r) v G H' kr (St.fresh ((f1.trans f2).trans f3) st nw1) (fun a ha => ((f1.trans f2).trans f3).back (nw a ha)) (ok'.less (.cons₂ _ (.cons _ (List.Sublist.refl _))))⟩⟩⟩
theorem x_TF_f {X : Cx} {W : List Addr} {F : Fm} {Γ : Gm} {Δ : Δs} {γ : Type} {x : Str} {p pos : Pos} {e1 e2 : Expr} {f : Addr} {fd : FuncData} {ps : List Str} {kk : Nat} {α1 α2 ρ β1 β2 : Type} {E1 : α1 → Od} {E2 : α2 → Pd} {Mf : α1 → α2 → Option (ρ × α1)} {Rp : ρ → Pd} {T : Option γ} {Δ1 : β1 → Δs} {x1 : β1 → α1} {k1 : β1 → Option γ} {Δ2 : β1 → β2 → Δs} {x2 : β1 → β2 → α2} {k : (β1 × β2) × (ρ × α1) → Option γ}
    (G : FnOk X.prog X.w X.K X.mg X.base CX0 kk f fd ps (Sp_OF_f E1 E2 Mf Rp)) (hr : Room kk X.A) (hm : X.mg x = some (.ref f)) (hk : PySem.W.keepIn X.K (.ref f) = true) (hb : Binds X.K fd ps []) (h1 : PE X e1 (tO W F Γ Δ T (k1) (fun b1 => E1 (x1 b1)) Δ1)) (h2 : ∀ b1 v G, PE X e2 (tE W F Γ (⟨G, v, E1 (x1 b1), false⟩ :: Δ1 b1) (k1 b1) (fun b2 => (Mf (x1 b1) (x2 b1 b2)).bind fun r => k ((b1, b2), r)) (fun b2 => E2 (x2 b1 b2)) (fun b2 => ⟨G, v, E1 (x1 b1), false⟩ :: Δ2 b1 b2)))
    (hg : Gl X x := by rfl) (hdb : (x == ("__debug__" : Str)) = false := by decide) (st1 : starEach [e1, e2] X.env = (false, eval e1 X.env) :: starEach [e2] X.env := by rfl) (st2 : starEach [e2] X.env = (false, eval e2 X.env) :: starEach [] X.env := by rfl) (hpl : (backTo pos (starEach [e2] X.env)).any (·.1) = false := by rfl) :
    PE X (.Call (.Name x p) [e1, e2] [] pos) (tE W F Γ Δ T k (fun b => Rp b.2.1) fun b => Δ2 b.1.1 b.1.2) :=
  (pe_call G hr hg hm hk hb .nil pass0 (pa_cons h1 (pa_cons (pe_ex fun b1 => pe_ex fun v => pe_ex fun G => h2 b1 v G) pa_nil st2) st1) hdb st1 hpl).wk fun σ H Q ⟨ok, g, e, q⟩ => ⟨ok, g, e, fun b1 v1 G1 H1 kb1 f1 nw1 ok1 => ⟨b1, v1, G1, ok1, g, kb1, fun b2 v2 H2 kb2 f2 ok2 hv2 => by
    obtain ⟨r, er, kr⟩ := bind_some kb2
    have hcell := ok2.hk.del _ List.mem_cons_self
    have hnd : (G1).Nodup := ok2.hk.ndup0
    refine ⟨v1, v2, G1, x1 b1, x2 b1 b2, rfl, hcell, hnd, hv2, r, er, fun v H' hk hv => ?_⟩
    obtain ⟨ok', st⟩ := call_f1 (W := G1 ++ W) ok2 (j := 0) rfl (fun a ha => List.mem_append_left _ ha) hk
    exact q ((b1, b2), r) v H' kr (St.fresh (f1.trans f2) st nw1) (ok'.less (.cons _ (List.Sublist.refl _))) hv⟩⟩
end L3
end
section
set_option Elab.async false
set_option linter.all false
set_option maxRecDepth 100000
set_option maxHeartbeats 4000000
namespace L3
open PySem PySem.Spec PyProof.Rows L2
/-! ### what is walked -/
def WalkF {α : Type} (J : It) (Ex : α → Pd) (xs : List α) (H : Hp) : Prop := ∀ H', Fzs H H' → ∀ i, (i < xs.length → J.go i H') ∧ (xs.length ≤ i → J.stop i H') ∧ ∀ x v H'', xs[i]? = some x → J.yld i H' v H'' → Gr H' H'' ∧ (Ex x).pr H'' v
def tI {α β γ : Type} (W : List Addr) (F : Fm) (Γ : Gm) (Δ : Δs) (T : Option γ) (k : β → Option γ) (Ex : α → Pd) (xs : β → List α) (Δ' : β → Δs) : TI := fun σ H R =>
  Ok F Γ Δ σ H ∧ ∃ g, T = some g ∧ ∀ b J H', k b = some g → St W H H' → Ok F Γ (Δ' b) σ H' → (xs b).length ≤ sizeLine → WalkF J Ex (xs b) H' → R J H'
def forS {α S : Type} : List α → S → (α → S → Option S) → Option S
  | [], s, _ => some s
  | x :: xs, s, f => (f x s).bind fun s' => forS xs s' f
def forL {α S ρ : Type} : List α → S → (α → S → Option (Bo S (Tm S ρ))) → Option (Bo S ρ)
  | [], s, _ => some (.nx s)
  | x :: xs, s, f => (f x s).bind fun o => match o with
    | .nx s' => forL xs s' f
    | .tm (.ct s') => forL xs s' f
    | .tm (.bk s') => some (.nx s')
    | .tm (.rt r) => some (.tm r)
def rngL (lo : Int) (n : Nat) : List Int := (List.range n).map fun (i : Nat) => lo + (i : Int)
def rg (n : Int) : Bool := decide (-(2 ^ 62) ≤ n) && decide (n ≤ 16777216)
def rg2 (m n : Int) : Bool := decide (-(2 ^ 62) ≤ m) && (decide (m < 2 ^ 62) && (decide (-(2 ^ 62) ≤ n) && (decide (n < 2 ^ 62) && decide (n - m ≤ 16777216))))
theorem rngL_len (lo : Int) (n : Nat) : (rngL lo n).length = n := by unfold rngL; rw [List.length_map, List.length_range]
section
variable {X : Cx} {W : List Addr} {F : Fm} {Γ : Gm} {Δ : Δs} {γ : Type}
theorem _root_.L2.PI.wk {tg iter : Expr} {t t' : TI} (h : PI X tg iter t) (w : ∀ σ H R, t' σ H R → t σ H R) : PI X tg iter t' := ⟨fun pins s σ H R I q => h.run pins s σ H R I (w σ H R q)⟩
theorem i_list {tg l : Expr} {α β : Type} {T : Option γ} {k : β → Option γ} {Ex : α → Pd} {xs : β → List α} {Δ' : β → Δs} (he : PE X l (tE W F Γ Δ T k (fun b => pL Ex (xs b)) Δ')) : PI X tg l (tI W F Γ Δ T k Ex xs Δ') :=
  (pi_list he).wk fun σ H R ⟨ok, g, e, q⟩ => ⟨ok, g, e, fun b v H' kb f ok' ⟨a, o, vs, ev, h, z, p⟩ => ⟨a, ev, ⟨vs, .inl (.inr ⟨o, h⟩)⟩, q b _ H' kb f ok' z fun H2 f2 i => by
    have h2 : SqL X.K H2 a vs := .inl (.inr ⟨o, f2 _ _ trivial h⟩)
    refine ⟨fun hi => ?_, fun hi => ⟨vs, h2, by rw [← paired_len p]; exact hi⟩, fun x v H3 hx hy => ?_⟩
    · obtain ⟨u, hu, _⟩ := paired_at p (List.getElem?_eq_getElem hi)
      exact ⟨vs, u, h2, hu⟩
    · obtain ⟨e3, hy⟩ := hy
      obtain ⟨u, hu, pu⟩ := paired_at p hx
      have e4 := hy vs h2
      rw [hu] at e4
      cases e4
      subst e3
      exact ⟨Gr.refl _, (Ex x).mono f2 pu⟩⟩⟩
theorem i_tupL {tg l : Expr} {α β : Type} {T : Option γ} {k : β → Option γ} {Ex : α → Pd} {xs : β → List α} {Δ' : β → Δs} (he : PE X l (tE W F Γ Δ T k (fun b => pTL Ex (xs b)) Δ')) : PI X tg l (tI W F Γ Δ T k Ex xs Δ') :=
  (pi_tup he).wk fun σ H R ⟨ok, g, e, q⟩ => ⟨ok, g, e, fun b v H' kb f ok' ⟨a, vs, ev, h, z, p⟩ => ⟨a, ev, ⟨vs, .inl (.inl h)⟩, q b _ H' kb f ok' z fun H2 f2 i => by
    have h2 : SqT X.K H2 a vs := .inl (.inl (f2 _ _ trivial h))
    refine ⟨fun hi => ?_, fun hi => ⟨vs, h2, by rw [← paired_len p]; exact hi⟩, fun x v H3 hx hy => ?_⟩
    · obtain ⟨u, hu, _⟩ := paired_at p (List.getElem?_eq_getElem hi)
      exact ⟨vs, u, h2, hu⟩
    · obtain ⟨e3, hy⟩ := hy
      obtain ⟨u, hu, pu⟩ := paired_at p hx
      have e4 := hy vs h2
      rw [hu] at e4
      cases e4
      subst e3
      exact ⟨Gr.refl _, (Ex x).mono f2 pu⟩⟩⟩
theorem rng_walk {lo : Int} {n : Nat} {H : Hp} : WalkF (Itr lo n) pInt (rngL lo n) H := fun H2 f2 i => by
  have hl : (rngL lo n).length = n := by unfold rngL; rw [List.length_map, List.length_range]
  rw [hl]
  refine ⟨fun h => h, fun h => h, fun x v H3 hx hy => ?_⟩
  obtain ⟨e1, e2⟩ := hy
  subst e1
  refine ⟨Gr.refl _, ?_⟩
  unfold rngL at hx
  rw [List.getElem?_map] at hx
  cases hr : (List.range n)[i]? with
  | none => rw [hr] at hx; cases hx
  | some m =>
    rw [hr] at hx
    have hi : i < n := by
      have := (List.getElem?_eq_some_iff.mp hr).1
      rwa [List.length_range] at this
    rw [List.getElem?_range hi] at hr
    cases hr
    have hx : lo + (i : Int) = x := by simpa using hx
    rw [← hx]
    exact e2
theorem i_rng1 {tg a : Expr} {p pos : Pos} {β : Type} {T : Option γ} {k : β → Option γ} {n : β → Int} {Δ' : β → Δs} (hm : X.mg "range" = none) (he : PE X a (tE W F Γ Δ T (fun b => grd (rg (n b) = true) (k b)) (fun b => pInt (n b)) Δ')) (hg : Gl X "range" := by rfl)
    (hs : starEach [a] X.env = [(false, eval a X.env)] := by rfl) : PI X tg (.Call (.Name "range" p) [a] [] pos) (tI W F Γ Δ T k pInt (fun b => rngL 0 (n b).toNat) Δ') :=
  (pi_range1 hg hm (pa_cons he pa_nil hs) hs).wk fun σ H R ⟨ok, g, e, q⟩ => ⟨ok, g, e, fun b v H' kb f ok' hv => by
    obtain ⟨c, kb⟩ := grd_some kb
    obtain ⟨c1, c2⟩ := Bool.and_eq_true_iff.mp c
    have hv : v = .int (n b) := hv
    subst hv
    have c2 := of_decide_eq_true c2
    exact ⟨n b, rfl, of_decide_eq_true c1, by omega, q b _ H' kb f ok' (by rw [rngL_len]; have : sizeLine = 16777216 := rfl; omega) rng_walk⟩⟩
theorem i_rng2 {tg a b : Expr} {p pos : Pos} {β1 β2 : Type} {T : Option γ} {k1 : β1 → Option γ} {k : β1 × β2 → Option γ} {m : β1 → Int} {n : β1 → β2 → Int} {Δ1 : β1 → Δs} {Δ2 : β1 → β2 → Δs} (hm : X.mg "range" = none) (ha : PE X a (tE W F Γ Δ T k1 (fun b => pInt (m b)) Δ1))
    (hb : ∀ b1, PE X b (tE W F Γ (Δ1 b1) (k1 b1) (fun b2 => grd (rg2 (m b1) (n b1 b2) = true) (k (b1, b2))) (fun b2 => pInt (n b1 b2)) (Δ2 b1))) (hg : Gl X "range" := by rfl)
    (hs : starEach [a, b] X.env = [(false, eval a X.env), (false, eval b X.env)] := by rfl) (hs2 : starEach [b] X.env = [(false, eval b X.env)] := by rfl) (hs3 : starEach [a, b] X.env = (false, eval a X.env) :: starEach [b] X.env := by rfl) : PI X tg (.Call (.Name "range" p) [a, b] [] pos) (tI W F Γ Δ T k pInt (fun b => rngL (m b.1) (n b.1 b.2 - m b.1).toNat) fun b => Δ2 b.1 b.2) :=
  (pi_range2 hg hm (pa_cons ha (pa_cons (pe_ex hb) pa_nil hs2) hs3) hs hs2).wk fun σ H R ⟨ok, g, e, q⟩ => ⟨ok, g, e, fun b1 v1 H1 kb1 f1 ok1 hv1 => ⟨b1, ok1, g, kb1, fun b2 v2 H2 kb2 f2 ok2 hv2 => by
    obtain ⟨c, kb⟩ := grd_some kb2
    obtain ⟨c1, c⟩ := Bool.and_eq_true_iff.mp c
    obtain ⟨c2, c⟩ := Bool.and_eq_true_iff.mp c
    obtain ⟨c3, c⟩ := Bool.and_eq_true_iff.mp c
    obtain ⟨c4, c5⟩ := Bool.and_eq_true_iff.mp c
    have c5 := of_decide_eq_true c5
    have hv1 : v1 = .int (m b1) := hv1
    have hv2 : v2 = .int (n b1 b2) := hv2
    subst hv1 hv2
    exact ⟨m b1, n b1 b2, rfl, ⟨of_decide_eq_true c1, of_decide_eq_true c2, of_decide_eq_true c3, of_decide_eq_true c4⟩, q (b1, b2) _ H2 kb (f1.trans f2) ok2 (by rw [rngL_len]; have : sizeLine = 16777216 := rfl; dsimp only; omega) rng_walk⟩⟩⟩
/-- for k in d -/
theorem i_keys {tg l : Expr} {α β : Type} {T : Option γ} {k : β → Option γ} {Ex : α → Pd} {xs : β → List (Str × α)} {Δ' : β → Δs} (he : PE X l (tE W F Γ Δ T k (fun b => pD Ex (xs b)) Δ')) : PI X tg l (tI W F Γ Δ T k pStr (fun b => (xs b).map Prod.fst) Δ') :=
  (pi_keys he).wk fun σ H R ⟨ok, g, e, q⟩ => ⟨ok, g, e, fun b v H' kb f ok' ⟨a, o, kvs, ev, h, z, p⟩ => ⟨a, o, ev, .inl ⟨kvs, h, q b _ H' kb f ok' (by rw [List.length_map]; exact z) fun H2 f2 i => by
    have h2 : H2 a = some (.frz o (.dK kvs)) := f2 _ _ trivial h
    rw [List.length_map]
    refine ⟨fun hi => ⟨h2, by rw [← paired_len p]; exact hi⟩, fun hi => ⟨h2, by rw [← paired_len p]; exact hi⟩, fun x v H3 hx hy => ?_⟩
    obtain ⟨e3, ky, vv, ek, ev⟩ := hy
    rw [List.getElem?_map] at hx
    cases hr : (xs b)[i]? with
    | none => rw [hr] at hx; cases hx
    | some m =>
      rw [hr] at hx
      have hx : m.1 = x := by simpa using hx
      obtain ⟨u, hu, pu, _⟩ := paired_at p hr
      rw [ek] at hu
      cases hu
      subst e3
      refine ⟨Gr.refl _, ?_⟩
      have pu : ky = .inr m.1 := pu
      rw [ev, pu, hx]
      rfl⟩⟩⟩
theorem i_keysI {tg l : Expr} {α β : Type} {T : Option γ} {k : β → Option γ} {Ex : α → Pd} {xs : β → List (Int × α)} {Δ' : β → Δs} (he : PE X l (tE W F Γ Δ T k (fun b => pDI Ex (xs b)) Δ')) : PI X tg l (tI W F Γ Δ T k pInt (fun b => (xs b).map Prod.fst) Δ') :=
  (pi_keys he).wk fun σ H R ⟨ok, g, e, q⟩ => ⟨ok, g, e, fun b v H' kb f ok' ⟨a, o, kvs, ev, h, z, p⟩ => ⟨a, o, ev, .inl ⟨kvs, h, q b _ H' kb f ok' (by rw [List.length_map]; exact z) fun H2 f2 i => by
    have h2 : H2 a = some (.frz o (.dK kvs)) := f2 _ _ trivial h
    rw [List.length_map]
    refine ⟨fun hi => ⟨h2, by rw [← paired_len p]; exact hi⟩, fun hi => ⟨h2, by rw [← paired_len p]; exact hi⟩, fun x v H3 hx hy => ?_⟩
    obtain ⟨e3, ky, vv, ek, ev⟩ := hy
    rw [List.getElem?_map] at hx
    cases hr : (xs b)[i]? with
    | none => rw [hr] at hx; cases hx
    | some m =>
      rw [hr] at hx
      have hx : m.1 = x := by simpa using hx
      obtain ⟨u, hu, pu, _⟩ := paired_at p hr
      rw [ek] at hu
      cases hu
      subst e3
      refine ⟨Gr.refl _, ?_⟩
      have pu : ky = .inl m.1 := pu
      rw [ev, pu, hx]
      rfl⟩⟩⟩
/-! ### targets -/
def Tgt {α : Type} (g : TG) (Ex : α → Pd) (bd : Gm → α → Gm) : Prop := ∀ (F : Fm) (Γ : Gm) (Δ : Δs) (σ : SS) (H : Hp) (x : α) (v : V) (Q : SS → Hp → Prop), Ok F Γ Δ σ H → (Ex x).pr H v → (∀ σ', Ok F (bd Γ x) Δ σ' H → Q σ' H) → g v σ H Q
theorem tg_name {α : Type} {Ex : α → Pd} (i : Nat) : Tgt (gName i) Ex (fun Γ x => Γ.set i (some (Ex x))) := fun _ _ _ _ _ _ _ _ ok hv q => q _ (ok.set hv)
theorem tg_pair {α β : Type} {E1 : α → Pd} {E2 : β → Pd} {K : PySem.W.Frag} (i j : Nat) : Tgt (gTup K 2 (gCons (gName i) (gCons (gName j) gNil))) (pT2 E1 E2) (fun Γ x => (Γ.set i (some (E1 x.1))).set j (some (E2 x.2))) :=
  fun _ _ _ _ _ _ _ _ ok ⟨a, u, w, ev, h, p1, p2⟩ q => ⟨a, [u, w], ev, .inl (.inl h), rfl, u, [w], rfl, w, [], rfl, rfl, q _ ((ok.set p1).set p2)⟩
theorem tg_trip {α β δ : Type} {E1 : α → Pd} {E2 : β → Pd} {E3 : δ → Pd} {K : PySem.W.Frag} (i j l : Nat) : Tgt (gTup K 3 (gCons (gName i) (gCons (gName j) (gCons (gName l) gNil)))) (pT3 E1 E2 E3) (fun Γ x => ((Γ.set i (some (E1 x.1))).set j (some (E2 x.2.1))).set l (some (E3 x.2.2))) :=
  fun _ _ _ _ _ _ _ _ ok ⟨a, u, w, z, ev, h, p1, p2, p3⟩ q => ⟨a, [u, w, z], ev, .inl (.inl h), rfl, u, [w, z], rfl, w, [z], rfl, z, [], rfl, rfl, q _ (((ok.set p1).set p2).set p3)⟩
/-! ### for -/
variable {N : Fn γ} {rest : List Stmt}
theorem drop_cons {α : Type} {xs : List α} {i : Nat} (h : i < xs.length) : ∃ x, xs[i]? = some x ∧ xs.drop i = x :: xs.drop (i + 1) := ⟨xs[i], List.getElem?_eq_getElem h, List.drop_eq_getElem_cons h⟩
theorem s_for {tg iter : Expr} {body : List Stmt} {pos : Pos} {g : TG} {α β S ρ : Type} {T : Option γ} {Ex : α → Pd} {bd : Gm → α → Gm} {xs : β → List α} {Δ' : β → Δs} {f : β → α → S → Option (Bo S (Tm S ρ))} {k2 : β → S → Option γ} {ι : ρ → γ} {R : Rt ρ} (hp : PassesOwn (model X.prog X.w) X.A X.env X.xe) (C : β → S → Cxt) (s0 : β → S)
    (hi : PI X tg iter (tI (cellsOf Δ) F Γ Δ T (fun b => (forL (xs b) (s0 b) (f b)).bind (boK (k2 b) ι)) Ex xs Δ')) (hg : PG X tg g) (ht : Tgt g Ex bd) (h0 : ∀ b, SubG (C b (s0 b)).1 Γ) (h0d : ∀ b, (C b (s0 b)).2.Sublist (Δ' b))
    (hb : ∀ b x s, PSs X body (tS F (bd (C b s).1 x) (C b s).2 (fB F (C b) (fT F (C b) R)) (f b x s))) (hr : ∀ b s, PSs X rest (tS F (C b s).1 (C b s).2 N (k2 b s))) (hN : ∀ H r D, N.fin H (ι r) D → R r D.rt) (hc : X.calm = true := by rfl) (hfs : ∀ x, foldedSetIterable iter X.env x = pure x := by intro _; rfl) :
    PSs X (.For tg iter body [] pos :: rest) (tS F Γ Δ N T) :=
  (pss_cons (ps_for hp hc hi hg (pss_ex fun b => pss_ex fun x => pss_ex fun s => hb b x s) hfs) (pss_ex fun b => pss_ex fun s => hr b s)).wk fun D σ H ⟨ok, gg, e, fin⟩ => ⟨ok, gg, e, fun b J H1 kb f1 ok1 _ wk => by
    obtain ⟨o, eo, ko⟩ := bind_some kb
    refine ⟨fun i m σ' H' => i + m = (xs b).length ∧ Fzs H1 H' ∧ ∃ s, Ok F (C b s).1 (C b s).2 σ' H' ∧ forL ((xs b).drop i) s (f b) = some o, ⟨(xs b).length, Nat.zero_add _, Fzs.refl _, s0 b, ok1.wk (h0 b) (h0d b), by rw [List.drop_zero]; exact eo⟩, fun i m σ2 H2 ⟨em, fz2, s, ok2, e2⟩ => ?_⟩
    by_cases hi : i < (xs b).length
    · obtain ⟨x, hx, ed⟩ := drop_cons hi
      rw [ed] at e2
      have e2 : (f b x s).bind _ = some o := e2
      obtain ⟨ob, eb, e2⟩ := bind_some e2
      refine .inr ⟨((wk H2 fz2) i).1 hi, fun σ3 H3 => (i + 1) + (m - 1) = (xs b).length ∧ Fzs H1 H3 ∧ ∃ s, Ok F (C b s).1 (C b s).2 σ3 H3 ∧ forL ((xs b).drop (i + 1)) s (f b) = some o, fun σ3 H3 h3 => ⟨m - 1, by omega, h3⟩, fun v H3 hy => ?_⟩
      obtain ⟨gr3, pv⟩ := ((wk H2 fz2) i).2.2 x v H3 hx hy
      refine ht F _ _ σ2 H3 x v _ (ok2.gr gr3) pv fun σ4 ok4 => ⟨b, x, s, ok4, ob, eb, ?_⟩
      cases ob with
      | nx s' => exact fun σ5 H5 f5 ok5 => ⟨by omega, (fz2.trans gr3.fzs).trans f5, s', ok5, e2⟩
      | tm t =>
        cases t with
        | ct s' => exact fun σ5 H5 f5 ok5 => ⟨by omega, (fz2.trans gr3.fzs).trans f5, s', ok5, e2⟩
        | bk s' =>
          have e2 : some (Bo.nx s') = some o := e2
          cases e2
          exact fun σ5 H5 f5 ok5 => ⟨b, s', ok5, gg, ko, N.mono fin (f1.fz.trans ((fz2.trans gr3.fzs).trans f5))⟩
        | rt r =>
          have e2 : some (Bo.tm r) = some o := e2
          cases e2
          have ko : some (ι r) = some gg := ko
          cases ko
          exact hN H r D fin
    · refine .inl ⟨((wk H2 fz2) i).2.1 (by omega), ?_⟩
      rw [List.drop_eq_nil_of_le (by omega)] at e2
      have e2 : some (Bo.nx s) = some o := e2
      cases e2
      exact ⟨b, s, ok2, gg, ko, N.mono fin (f1.fz.trans fz2)⟩⟩
/-- .. a body that only goes on -/
theorem s_forS {tg iter : Expr} {body : List Stmt} {pos : Pos} {g : TG} {α β S : Type} {T : Option γ} {Ex : α → Pd} {bd : Gm → α → Gm} {xs : β → List α} {Δ' : β → Δs} {f : β → α → S → Option S} {k2 : β → S → Option γ} (hp : PassesOwn (model X.prog X.w) X.A X.env X.xe) (C : β → S → Cxt) (s0 : β → S)
    (hi : PI X tg iter (tI (cellsOf Δ) F Γ Δ T (fun b => (forS (xs b) (s0 b) (f b)).bind (k2 b)) Ex xs Δ')) (hg : PG X tg g) (ht : Tgt g Ex bd) (h0 : ∀ b, SubG (C b (s0 b)).1 Γ) (h0d : ∀ b, (C b (s0 b)).2.Sublist (Δ' b))
    (hb : ∀ b x s, PSs X body (tS F (bd (C b s).1 x) (C b s).2 (fN F (C b)) (f b x s))) (hr : ∀ b s, PSs X rest (tS F (C b s).1 (C b s).2 N (k2 b s))) (hc : X.calm = true := by rfl) (hfs : ∀ x, foldedSetIterable iter X.env x = pure x := by intro _; rfl) :
    PSs X (.For tg iter body [] pos :: rest) (tS F Γ Δ N T) :=
  (pss_cons (ps_for hp hc hi hg (pss_ex fun b => pss_ex fun x => pss_ex fun s => hb b x s) hfs) (pss_ex fun b => pss_ex fun s => hr b s)).wk fun D σ H ⟨ok, gg, e, fin⟩ => ⟨ok, gg, e, fun b J H1 kb f1 ok1 _ wk => by
    obtain ⟨o, eo, ko⟩ := bind_some kb
    refine ⟨fun i m σ' H' => i + m = (xs b).length ∧ Fzs H1 H' ∧ ∃ s, Ok F (C b s).1 (C b s).2 σ' H' ∧ forS ((xs b).drop i) s (f b) = some o, ⟨(xs b).length, Nat.zero_add _, Fzs.refl _, s0 b, ok1.wk (h0 b) (h0d b), by rw [List.drop_zero]; exact eo⟩, fun i m σ2 H2 ⟨em, fz2, s, ok2, e2⟩ => ?_⟩
    by_cases hi : i < (xs b).length
    · obtain ⟨x, hx, ed⟩ := drop_cons hi
      rw [ed] at e2
      have e2 : (f b x s).bind _ = some o := e2
      obtain ⟨s', eb, e2⟩ := bind_some e2
      refine .inr ⟨((wk H2 fz2) i).1 hi, fun σ3 H3 => (i + 1) + (m - 1) = (xs b).length ∧ Fzs H1 H3 ∧ ∃ s, Ok F (C b s).1 (C b s).2 σ3 H3 ∧ forS ((xs b).drop (i + 1)) s (f b) = some o, fun σ3 H3 h3 => ⟨m - 1, by omega, h3⟩, fun v H3 hy => ?_⟩
      obtain ⟨gr3, pv⟩ := ((wk H2 fz2) i).2.2 x v H3 hx hy
      exact ht F _ _ σ2 H3 x v _ (ok2.gr gr3) pv fun σ4 ok4 => ⟨b, x, s, ok4, s', eb, fun σ5 H5 f5 ok5 => ⟨by omega, (fz2.trans gr3.fzs).trans f5, s', ok5, e2⟩⟩
    · refine .inl ⟨((wk H2 fz2) i).2.1 (by omega), ?_⟩
      rw [List.drop_eq_nil_of_le (by omega)] at e2
      have e2 : s = o := Option.some.inj e2
      rw [e2] at ok2
      exact ⟨b, o, ok2, gg, ko, N.mono fin (f1.fz.trans fz2)⟩⟩
/-! ### while -/
def whL {S ρ : Type} : Nat → (S → Option (Option (Bo S (Tm S ρ)))) → S → Option (Bo S ρ)
  | 0, _, _ => none
  | n + 1, f, s => (f s).bind fun o => match o with
    | none => some (.nx s)
    | some (.nx s') => whL n f s'
    | some (.tm (.ct s')) => whL n f s'
    | some (.tm (.bk s')) => some (.nx s')
    | some (.tm (.rt r)) => some (.tm r)
theorem wfuelEx : ∃ n : Nat, n = 1000000000 := ⟨_, rfl⟩
noncomputable def wfuel : Nat := Classical.choose wfuelEx
theorem wfuel_eq : wfuel = 1000000000 := Classical.choose_spec wfuelEx
theorem s_while {ce : Expr} {body : List Stmt} {pos : Pos} {β S ρ : Type} {T : Option γ} {st : S → Option (Option (Bo S (Tm S ρ)))} {c : S → β → Bool} {f : S → β → Option (Bo S (Tm S ρ))} {k2 : S → Option γ} {ι : ρ → γ} {R : Rt ρ} (hp : PassesOwn (model X.prog X.w) X.A X.env X.xe) (C : S → Cxt) (s0 : S) (hT : T = (whL wfuel st s0).bind (boK k2 ι))
    (hcn : ∀ s, PT X ce (tTs (cellsOf (C s).2) F (C s).1 (C s).2 (st s) (fun b => if c s b = true then (f s b).bind (fun o => some (some o)) else some none) (c s) fun _ => (C s).2)) (h0 : SubG (C s0).1 Γ) (h0d : (C s0).2.Sublist Δ)
    (hb : ∀ s b, PSs X body (tS F (C s).1 (C s).2 (fB F C (fT F C R)) (f s b))) (hr : ∀ s, PSs X rest (tS F (C s).1 (C s).2 N (k2 s))) (hN : ∀ H r D, N.fin H (ι r) D → R r D.rt) : PSs X (.While ce body [] pos :: rest) (tS F Γ Δ N T) :=
  (pss_cons (ps_while hp (pt_ex hcn) (pss_ex fun s => pss_ex fun b => hb s b)) (pss_ex hr)).wk fun D σ H ⟨ok, gg, e, fin⟩ => by
    rw [hT] at e
    obtain ⟨o, eo, ko⟩ := bind_some e
    refine ⟨fun m σ' H' => Fzs H H' ∧ ∃ s, Ok F (C s).1 (C s).2 σ' H' ∧ whL m st s = some o, ⟨wfuel, Fzs.refl _, s0, ok.wk h0 h0d, eo⟩, fun m σ2 H2 ⟨fz2, s, ok2, e2⟩ => ?_⟩
    cases m with
    | zero => cases e2
    | succ n =>
      have e2 : (st s).bind _ = some o := e2
      obtain ⟨w, ew, e2⟩ := bind_some e2
      refine ⟨s, ok2, w, ew, fun b H3 kb f3 ok3 => ?_⟩
      try dsimp only at kb
      cases hcb : c s b with
      | true =>
        rw [if_pos hcb] at kb
        obtain ⟨ob, eb, ew2⟩ := bind_some kb
        cases ew2
        refine iteT ⟨fun σ4 H4 => ∃ m', m' < n + 1 ∧ Fzs H H4 ∧ ∃ s, Ok F (C s).1 (C s).2 σ4 H4 ∧ whL m' st s = some o, fun σ4 H4 h => h, s, b, ok3, ob, eb, ?_⟩
        cases ob with
        | nx s' => exact fun σ5 H5 f5 ok5 => ⟨n, by omega, (fz2.trans f3.fz).trans f5, s', ok5, e2⟩
        | tm t =>
          cases t with
          | ct s' => exact fun σ5 H5 f5 ok5 => ⟨n, by omega, (fz2.trans f3.fz).trans f5, s', ok5, e2⟩
          | bk s' =>
            have e2 : some (Bo.nx s') = some o := e2
            cases e2
            exact fun σ5 H5 f5 ok5 => ⟨s', ok5, gg, ko, N.mono fin ((fz2.trans f3.fz).trans f5)⟩
          | rt r =>
            have e2 : some (Bo.tm r) = some o := e2
            cases e2
            have ko : some (ι r) = some gg := ko
            cases ko
            exact hN H r D fin
      | false =>
        rw [if_neg (by rw [hcb]; exact Bool.false_ne_true)] at kb
        cases kb
        have e2 : some (Bo.nx s) = some o := e2
        cases e2
        exact iteF ⟨s, ok3, gg, ko, N.mono fin (fz2.trans f3.fz)⟩
end
end L3
end
section
set_option Elab.async false
set_option linter.all false
set_option maxRecDepth 100000
set_option maxHeartbeats 4000000
namespace L3
open PySem PySem.Spec PyProof.Rows L2
/-! ### comprehensions -/
def compM {α δ S : Type} : List α → S → (α → S → Option (Option δ × S)) → Option (List δ × S)
  | [], s, _ => some ([], s)
  | x :: xs, s, f => (f x s).bind fun o => (compM xs o.2 f).bind fun r => some ((match o.1 with | none => r.1 | some y => y :: r.1), r.2)
theorem compM_len {α δ S : Type} {f : α → S → Option (Option δ × S)} : ∀ {xs : List α} {s : S} {r : List δ × S}, compM xs s f = some r → r.1.length ≤ xs.length
  | [], s, r, h => by cases h; exact Nat.le_refl _
  | x :: xs, s, r, h => by
    obtain ⟨o, _, h⟩ := bind_some (show (f x s).bind _ = some r from h)
    obtain ⟨q, hq, h⟩ := bind_some h
    have ih := compM_len hq
    cases h
    cases o.1 with
    | none => exact Nat.le_succ_of_le ih
    | some y => exact Nat.succ_le_succ ih
def wipeG (Γ : Gm) : List Nat → Gm
  | [] => Γ
  | v :: vs => (wipeG Γ vs).set v none
theorem wipeG_length (Γ : Gm) : ∀ vs : List Nat, (wipeG Γ vs).length = Γ.length
  | [] => rfl
  | v :: vs => by unfold wipeG; rw [List.length_set, wipeG_length Γ vs]
theorem wipe_get {Γ : Gm} {σ : SS} {p : Pd} {i : Nat} : ∀ {vs : List Nat}, (wipeG Γ vs)[i]? = some (some p) → Γ[i]? = some (some p) ∧ (wipe σ vs)[i]? = σ[i]?
  | [], h => ⟨h, rfl⟩
  | v :: vs, h => by
    unfold wipeG at h
    by_cases e : i = v
    · subst e
      by_cases l : i < (wipeG Γ vs).length
      · rw [List.getElem?_set_self l] at h; cases h
      · rw [List.getElem?_eq_none (by rw [List.length_set]; omega)] at h; cases h
    · rw [List.getElem?_set_ne (fun z => e z.symm)] at h
      obtain ⟨h1, h2⟩ := wipe_get h
      refine ⟨h1, ?_⟩
      unfold wipe
      rw [List.getElem?_set_ne (fun z => e z.symm)]
      exact h2
theorem Ok.wipe {F : Fm} {Γ : Gm} {Δ Δ' : Δs} {σ : SS} {H H' : Hp} (k : Ok F Γ Δ σ H) (f : Fzs H H') (h : Hk F Δ' H') (vs : List Nat) : Ok F (wipeG Γ vs) Δ' (L2.wipe σ vs) H' :=
  ⟨h, by rw [wipe_length, wipeG_length]; exact k.len, fun i p e => by
    obtain ⟨e1, e2⟩ := wipe_get (σ := σ) e
    obtain ⟨v, hs, hv⟩ := k.gam i p e1
    exact ⟨v, e2.trans hs, p.mono f hv⟩⟩
theorem Ok.re {F : Fm} {Γ : Gm} {Δ Δ' : Δs} {σ : SS} {H H' : Hp} (k : Ok F Γ Δ σ H) (f : Fzs H H') (h : Hk F Δ' H') : Ok F Γ Δ' σ H' :=
  ⟨h, k.len, fun i p e => by
    obtain ⟨v, hs, hv⟩ := k.gam i p e
    exact ⟨v, hs, p.mono f hv⟩⟩
theorem flat_perm {Δ Δ' : Δs} (p : Δ.Perm Δ') : (cellsOf Δ).Perm (cellsOf Δ') := by
  unfold cellsOf
  exact List.Perm.flatMap_right Cell.G p
theorem Hk.perm {F : Fm} {Δ Δ' : Δs} {H : Hp} (k : Hk F Δ H) (p : Δ.Perm Δ') : Hk F Δ' H :=
  ⟨k.base, fun c hc => k.del c (p.mem_iff.mpr hc), (flat_perm p).nodup_iff.mp k.nod, fun c hc => k.own c (p.mem_iff.mpr hc), k.mem⟩
def TgtW {α : Type} (g : TG) (Ex : α → Pd) (bd : Gm → α → Gm) (vs : List Nat) : Prop := ∀ (F : Fm) (Γ : Gm) (Δ : Δs) (σ : SS) (H : Hp) (x : α) (v : V) (Q : SS → Hp → Prop), Ok F (wipeG Γ vs) Δ (L2.wipe σ vs) H → (Ex x).pr H v → (∀ σ', L2.wipe σ' vs = L2.wipe σ vs → Ok F (bd (wipeG Γ vs) x) Δ σ' H → Q σ' H) → g v (L2.wipe σ vs) H Q
theorem tw_name {α : Type} {Ex : α → Pd} (i : Nat) : TgtW (gName i) Ex (fun Γ x => Γ.set i (some (Ex x))) [i] := fun _ _ _ σ _ _ _ _ ok hv q => q _ (by
  show ((σ.set i none).set i _).set i none = σ.set i none
  rw [List.set_set, List.set_set]) (ok.set hv)
theorem tw_pair {α β : Type} {E1 : α → Pd} {E2 : β → Pd} {K : PySem.W.Frag} (i j : Nat) (hij : i ≠ j) : TgtW (gTup K 2 (gCons (gName i) (gCons (gName j) gNil))) (pT2 E1 E2) (fun Γ x => (Γ.set i (some (E1 x.1))).set j (some (E2 x.2))) [i, j] :=
  fun _ _ _ σ _ _ _ _ ok ⟨a, u, w, ev, h, p1, p2⟩ q => ⟨a, [u, w], ev, .inl (.inl h), rfl, u, [w], rfl, w, [], rfl, rfl, q _ (by
    show (((((σ.set j none).set i none).set i _).set j _).set j none).set i none = (σ.set j none).set i none
    rw [List.set_set, List.set_set, List.set_comm _ _ hij, List.set_set, List.set_set]) ((ok.set p1).set p2)⟩
section
variable {X : Cx} {W : List Addr} {F : Fm} {Γ : Gm} {Δ : Δs} {γ : Type}
abbrev Blk (X : Cx) (scope : Scope) (P : Cx → Prop) : Prop := ∀ (s : Shared) (H : Hp) (C : Addr) (cl : List (Str × Addr)) (fp : List Addr), P (X.blk s H scope (compEnvC scope cl C X.env) fp)
section
variable {α β β2 β3 δ S : Type} {g : TG} {own : List (Str × Nat)} {T : Option γ} {k0 : β → Option γ} {k : β × (List δ × S) → Option γ} {out : β × (List δ × S) → List δ} {Ex : α → Pd} {Ee : δ → Pd} {bd : Gm → α → Gm} {xs : β → List α} {Δ1 : β → Δs} {C : β → S → Δs} {s0 : β → S} {f : β → α → S → Option (Option δ × S)}
    {c : β → α → S → β2 → Bool} {s2 : β → α → S → β2 → S} {T2 : β → α → S → β2 → Option (Option δ × S)} {y : β → α → S → β2 → β3 → δ} {s3 : β → α → S → β2 → β3 → S}
abbrev lcT (W : List Addr) (F : Fm) (Γ : Gm) (own : List (Str × Nat)) (bd : Gm → α → Gm) (C : β → S → Δs) (f : β → α → S → Option (Option δ × S)) (c : β → α → S → β2 → Bool) (s2 : β → α → S → β2 → S) (T2 : β → α → S → β2 → Option (Option δ × S)) : TT := fun σ H Q => ∃ d b x s, tTs W F (bd (wipeG Γ (own.map (·.2))) x) (C b s ++ [d]) (f b x s) (fun b2 => if c b x s b2 = true then T2 b x s b2 else some (none, s2 b x s b2)) (c b x s) (fun b2 => C b (s2 b x s b2) ++ [d]) σ H Q
abbrev lcE (W : List Addr) (F : Fm) (Γ : Gm) (own : List (Str × Nat)) (bd : Gm → α → Gm) (C : β → S → Δs) (s2 : β → α → S → β2 → S) (T2 : β → α → S → β2 → Option (Option δ × S)) (Ee : δ → Pd) (y : β → α → S → β2 → β3 → δ) (s3 : β → α → S → β2 → β3 → S) : TE := fun σ H Q => ∃ d b x s b2, tE W F (bd (wipeG Γ (own.map (·.2))) x) (C b (s2 b x s b2) ++ [d]) (T2 b x s b2) (fun b3 => some (some (y b x s b2 b3), s3 b x s b2 b3)) (fun b3 => Ee (y b x s b2 b3)) (fun b3 => C b (s3 b x s b2 b3) ++ [d]) σ H Q
theorem lc_imp (hrun : ∀ b g, k0 b = some g → ∃ r, compM (xs b) (s0 b) (f b) = some r ∧ k (b, r) = some g) (hout : ∀ b r, compM (xs b) (s0 b) (f b) = some r → out (b, r) = r.1) (ht : TgtW g Ex bd (own.map (·.2))) (h0 : ∀ b, Δ1 b = C b (s0 b)) :
    ∀ σ H Q, tO W F Γ Δ T k (fun b => oL Ee (out b)) (fun b => C b.1 b.2.2) σ H Q → tLc (tI W F Γ Δ T k0 Ex xs Δ1) g (lcT W F Γ own bd C f c s2 T2) (lcE W F Γ own bd C s2 T2 Ee y s3) (own.map (·.2)) σ H Q :=
  fun σ H Q ⟨ok0, gg, e, q⟩ => ⟨ok0, gg, e, fun b J H1 kb f1 ok1 zl wk D nD => by
    obtain ⟨⟨ys, sf⟩, er, kr⟩ := hrun b gg kb
    have grD : Gr H1 (upd H1 D (.lst [])) := Gr.new nD
    have hk0 : Hk F (C b (s0 b) ++ [⟨[D], .ref D, oL Ee [], false⟩]) (upd H1 D (.lst [])) := by
      rw [← h0 b]
      exact (ok1.hk.add (G := [D]) (v := .ref D) (d := oL Ee []) grD (List.nodup_cons.mpr ⟨List.not_mem_nil, List.nodup_nil⟩) (fun a ha => by rw [List.mem_singleton.mp ha]; exact nD) ⟨D, [], rfl, rfl, upd_same, Nat.zero_le _, .nil⟩).perm (List.perm_append_singleton _ _).symm
    refine ⟨fun i m H' => i + m = (xs b).length ∧ St W H1 H' ∧ ∃ s acc ys', Hk F (C b s ++ [⟨[D], .ref D, oL Ee acc, false⟩]) H' ∧ compM ((xs b).drop i) s (f b) = some (ys', sf) ∧ acc ++ ys' = ys, ⟨(xs b).length, Nat.zero_add _, grD.st, s0 b, [], ys, hk0, by rw [List.drop_zero]; exact er, rfl⟩, fun i m H2 ⟨em, st2, s, acc, ys', hk2, ec, ea⟩ => ?_⟩
    by_cases hi : i < (xs b).length
    · obtain ⟨x, hx, ed⟩ := drop_cons hi
      rw [ed] at ec
      obtain ⟨o, eo, ec⟩ := bind_some (show (f b x s).bind _ = some (ys', sf) from ec)
      obtain ⟨r, erc, ec⟩ := bind_some ec
      refine .inr ⟨((wk H2 st2.fz) i).1 hi, fun H' => (i + 1) + (m - 1) = (xs b).length ∧ St W H1 H' ∧ ∃ s acc ys', Hk F (C b s ++ [⟨[D], .ref D, oL Ee acc, false⟩]) H' ∧ compM ((xs b).drop (i + 1)) s (f b) = some (ys', sf) ∧ acc ++ ys' = ys, fun H' h => ⟨m - 1, by omega, h⟩, fun v H3 hy => ?_⟩
      obtain ⟨gr3, pv⟩ := ((wk H2 st2.fz) i).2.2 x v H3 hx hy
      have st3 : St W H1 H3 := st2.trans gr3.st
      refine ht F Γ _ σ H3 x v _ (ok1.wipe st3.fz (hk2.gr gr3) _) pv fun σ4 ew ok4 => ⟨ew, ⟨[D], .ref D, oL Ee acc, false⟩, b, x, s, ok4, o, eo, fun b2 H5 kb2 st5 ok5 => ?_⟩
      try dsimp only at kb2
      cases hcb : c b x s b2 with
      | false =>
        rw [if_neg (by rw [hcb]; exact Bool.false_ne_true)] at kb2
        cases kb2
        cases ec
        exact iteF ⟨by omega, st3.trans st5, s2 b x s b2, acc, r.1, ok5.hk, erc, ea⟩
      | true =>
        rw [if_pos hcb] at kb2
        refine iteT ⟨⟨[D], .ref D, oL Ee acc, false⟩, b, x, s, b2, ok5, o, kb2, fun b3 w H6 kb3 st6 ok6 hw => ?_⟩
        cases kb3
        cases ec
        have hlast : (C b (s3 b x s b2 b3) ++ [⟨[D], .ref D, oL Ee acc, false⟩])[(C b (s3 b x s b2 b3)).length]? = some ⟨[D], .ref D, oL Ee acc, false⟩ := by rw [List.getElem?_append_right (Nat.le_refl _), Nat.sub_self]; rfl
        obtain ⟨D', vs, eG, eD, hD, zD, pD⟩ := ok6.hk.del _ (cell_mem hlast)
        have eD' : D' = D := by cases eG; rfl
        subst eD'
        have hlen : acc.length < sizeLine := by
          have l1 := compM_len erc
          have l2 : (acc ++ y b x s b2 b3 :: r.1).length = ys.length := congrArg List.length ea
          have l3 := compM_len er
          rw [List.length_append, List.length_cons] at l2
          have : ys.length ≤ (xs b).length := l3
          omega
        have fzm : Fzs H6 (upd H6 D' (.lst (vs ++ [w]))) := Fzs.mut hD fun z => z
        obtain ⟨hk7, fz7⟩ := ok6.hk.turn (H' := upd H6 D' (.lst (vs ++ [w]))) (d' := oL Ee (acc ++ [y b x s b2 b3])) hlast (fun a o na e => by
          rw [upd_ne fun z => na (by rw [z]; exact List.mem_singleton.mpr rfl)]; exact e)
          ⟨D', vs ++ [w], rfl, rfl, upd_same, by rw [List.length_append, List.length_singleton]; omega, paired_app (paired_mono (fun x _ => (Ee x).mono fzm) pD) (.cons ((Ee _).mono fzm hw) .nil)⟩
        refine ⟨vs, hD, by rw [← paired_len pD]; exact hlen, by omega, ⟨((st3.fz.trans st5.fz).trans st6.fz).trans fz7, fun a o na e => ?_, fun a o e => ?_⟩, s3 b x s b2 b3, acc ++ [y b x s b2 b3], r.1, ?_, erc, by rw [List.append_assoc]; exact ea⟩
        · rw [upd_ne (ne_of_none e nD)]
          exact ((st3.trans st5).trans st6).kp a o na e
        · obtain ⟨u, eu⟩ := ((st3.trans st5).trans st6).dom a o e
          exact upd_dom _ _ a u eu
        · rw [List.set_append_right _ _ (Nat.le_refl _), Nat.sub_self] at hk7
          exact hk7
    · refine .inl ⟨((wk H2 st2.fz) i).2.1 (by omega), ?_⟩
      rw [List.drop_eq_nil_of_le (by omega)] at ec
      have ec : some (([] : List δ), s) = some (ys', sf) := ec
      cases ec
      rw [List.append_nil] at ea
      subst ea
      have hkf := hk2.perm (List.perm_append_singleton _ _)
      rw [show acc = out (b, (acc, _)) from (hout b _ er).symm] at hkf
      exact q (b, (acc, _)) _ _ H2 kr (f1.trans st2) (fun a ha => by rw [List.mem_singleton.mp ha]; exact f1.back nD) (ok1.re st2.fz hkf)⟩
theorem x_lc0 {elt tg iter : Expr} {ifs : List Expr} {scope : Scope} {pos : Pos} (nd : X.N.Nodup)
    (hi : PI X tg iter (tI W F Γ Δ T k0 Ex xs Δ1)) (hrun : ∀ b g, k0 b = some g → ∃ r, compM (xs b) (s0 b) (f b) = some r ∧ k (b, r) = some g) (hout : ∀ b r, compM (xs b) (s0 b) (f b) = some r → out (b, r) = r.1) (ok : BlkOk X.N X.env.scope scope own) (hg : Blk X scope fun Y => PG Y tg g) (ht : TgtW g Ex bd (own.map (·.2))) (h0 : ∀ b, Δ1 b = C b (s0 b))
    (hc : ∀ d, Blk X scope fun Y => ∀ b x s, PTs Y ifs (tTs W F (bd (wipeG Γ (own.map (·.2))) x) (C b s ++ [d]) (f b x s) (fun b2 => if c b x s b2 = true then T2 b x s b2 else some (none, s2 b x s b2)) (c b x s) fun b2 => C b (s2 b x s b2) ++ [d]))
    (he : ∀ d, Blk X scope fun Y => ∀ b x s b2, PE Y elt (tE W F (bd (wipeG Γ (own.map (·.2))) x) (C b (s2 b x s b2) ++ [d]) (T2 b x s b2) (fun b3 => some (some (y b x s b2 b3), s3 b x s b2 b3)) (fun b3 => Ee (y b x s b2 b3)) fun b3 => C b (s3 b x s b2 b3) ++ [d]))
    (hcm : X.calm = true := by rfl) (hs : ∀ x, foldedSetIterable iter X.env x = pure x := by intro _; rfl) :
    PE X (.ListComp elt [⟨tg, iter, ifs, 0⟩] scope pos) (tO W F Γ Δ T k (fun b => oL Ee (out b)) fun b => C b.1 b.2.2) :=
  (pe_lc hcm nd hi ok hg (tt := lcT W F Γ own bd C f c s2 T2) (fun s H Cc cl fp => ⟨fun pins s' σ H Q I ⟨d, b, x, s'', h⟩ => (hc d s _ Cc cl fp b x s'').run pins s' σ H Q I h⟩) (te := lcE W F Γ own bd C s2 T2 Ee y s3) (fun s H Cc cl fp => ⟨fun pins s' σ H Q I ⟨d, b, x, s'', b2, h⟩ => (he d s _ Cc cl fp b x s'' b2).run pins s' σ H Q I h⟩) hs).wk (lc_imp hrun hout ht h0)
/-- name = [..] -/
theorem a_lc0 {elt tg iter : Expr} {ifs : List Expr} {scope : Scope} {pos py spos : Pos} {i : Nat} {yv : Str} (nd : X.N.Nodup)
    (hi : PI X tg iter (tI W F Γ Δ T k0 Ex xs Δ1)) (hrun : ∀ b g, k0 b = some g → ∃ r, compM (xs b) (s0 b) (f b) = some r ∧ k (b, r) = some g) (hout : ∀ b r, compM (xs b) (s0 b) (f b) = some r → out (b, r) = r.1) (ok : BlkOk X.N X.env.scope scope own) (hg : Blk X scope fun Y => PG Y tg g) (ht : TgtW g Ex bd (own.map (·.2))) (h0 : ∀ b, Δ1 b = C b (s0 b))
    (hc : ∀ d, Blk X scope fun Y => ∀ b x s, PTs Y ifs (tTs W F (bd (wipeG Γ (own.map (·.2))) x) (C b s ++ [d]) (f b x s) (fun b2 => if c b x s b2 = true then T2 b x s b2 else some (none, s2 b x s b2)) (c b x s) fun b2 => C b (s2 b x s b2) ++ [d]))
    (he : ∀ d, Blk X scope fun Y => ∀ b x s b2, PE Y elt (tE W F (bd (wipeG Γ (own.map (·.2))) x) (C b (s2 b x s b2) ++ [d]) (T2 b x s b2) (fun b3 => some (some (y b x s b2 b3), s3 b x s b2 b3)) (fun b3 => Ee (y b x s b2 b3)) fun b3 => C b (s3 b x s b2 b3) ++ [d]))
    (hsw : swapsWith (.ListComp elt [⟨tg, iter, ifs, 0⟩] scope pos) (some (.Name yv py)) spos.line X.env = pure true) (hy : X.N[i]? = some yv := by rfl) (hyl : X.env.scope.names.lookup yv = some .local := by rfl) (hcm : X.calm = true := by rfl) (hs : ∀ x, foldedSetIterable iter X.env x = pure x := by intro _; rfl) :
    PS X (.Assign [.Name yv py] (.ListComp elt [⟨tg, iter, ifs, 0⟩] scope pos) spos) (tAsg (tO W F Γ Δ T k (fun b => oL Ee (out b)) fun b => C b.1 b.2.2) (gName i)) :=
  (ps_setLc hcm nd hy hyl hsw hi ok hg (tt := lcT W F Γ own bd C f c s2 T2) (fun s H Cc cl fp => ⟨fun pins s' σ H Q I ⟨d, b, x, s'', h⟩ => (hc d s _ Cc cl fp b x s'').run pins s' σ H Q I h⟩) (te := lcE W F Γ own bd C s2 T2 Ee y s3) (fun s H Cc cl fp => ⟨fun pins s' σ H Q I ⟨d, b, x, s'', b2, h⟩ => (he d s _ Cc cl fp b x s'' b2).run pins s' σ H Q I h⟩) hs).wk fun D σ H h => lc_imp hrun hout ht h0 σ H _ h
end
theorem o_drop {β ρ : Type} {e : Expr} {T : Option γ} {k : β → Option γ} {D : β → Od} {Δ' : β → Δs} (h : PE X e (tO W F Γ Δ T (fun b : β × ρ => k b.1) (fun b => D b.1) fun b => Δ' b.1)) : PE X e (tO W F Γ Δ T k D Δ') :=
  h.wk fun σ H Q ⟨ok, g, e, q⟩ => ⟨ok, g, e, fun b v G H' kb f nw ok' => q b.1 v G H' kb f nw ok'⟩
/-- .. with what a turn changes -/
theorem x_lc {elt tg iter : Expr} {ifs : List Expr} {scope : Scope} {own : List (Str × Nat)} {pos : Pos} {g : TG} {α β β2 β3 δ S : Type} {T : Option γ} {k : β × (List δ × S) → Option γ} {Ex : α → Pd} {Ee : δ → Pd} {bd : Gm → α → Gm} {xs : β → List α} {Δ1 : β → Δs} {C : β → S → Δs} {s0 : β → S} {f : β → α → S → Option (Option δ × S)}
    {c : β → α → S → β2 → Bool} {s2 : β → α → S → β2 → S} {T2 : β → α → S → β2 → Option (Option δ × S)} {y : β → α → S → β2 → β3 → δ} {s3 : β → α → S → β2 → β3 → S} (nd : X.N.Nodup)
    (hi : PI X tg iter (tI W F Γ Δ T (fun b => (compM (xs b) (s0 b) (f b)).bind fun r => k (b, r)) Ex xs Δ1)) (ok : BlkOk X.N X.env.scope scope own) (hg : Blk X scope fun Y => PG Y tg g) (ht : TgtW g Ex bd (own.map (·.2))) (h0 : ∀ b, Δ1 b = C b (s0 b))
    (hc : ∀ d, Blk X scope fun Y => ∀ b x s, PTs Y ifs (tTs W F (bd (wipeG Γ (own.map (·.2))) x) (C b s ++ [d]) (f b x s) (fun b2 => if c b x s b2 = true then T2 b x s b2 else some (none, s2 b x s b2)) (c b x s) fun b2 => C b (s2 b x s b2) ++ [d]))
    (he : ∀ d, Blk X scope fun Y => ∀ b x s b2, PE Y elt (tE W F (bd (wipeG Γ (own.map (·.2))) x) (C b (s2 b x s b2) ++ [d]) (T2 b x s b2) (fun b3 => some (some (y b x s b2 b3), s3 b x s b2 b3)) (fun b3 => Ee (y b x s b2 b3)) fun b3 => C b (s3 b x s b2 b3) ++ [d]))
    (hcm : X.calm = true := by rfl) (hs : ∀ x, foldedSetIterable iter X.env x = pure x := by intro _; rfl) :
    PE X (.ListComp elt [⟨tg, iter, ifs, 0⟩] scope pos) (tO W F Γ Δ T k (fun b => oL Ee b.2.1) fun b => C b.1 b.2.2) :=
  x_lc0 (out := fun b => b.2.1) nd hi (fun _ _ h => bind_some h) (fun _ _ _ => rfl) ok hg ht h0 hc he hcm hs
theorem a_lc {elt tg iter : Expr} {ifs : List Expr} {scope : Scope} {own : List (Str × Nat)} {pos py spos : Pos} {i : Nat} {yv : Str} {g : TG} {α β β2 β3 δ S : Type} {T : Option γ} {k : β × (List δ × S) → Option γ} {Ex : α → Pd} {Ee : δ → Pd} {bd : Gm → α → Gm} {xs : β → List α} {Δ1 : β → Δs} {C : β → S → Δs} {s0 : β → S} {f : β → α → S → Option (Option δ × S)}
    {c : β → α → S → β2 → Bool} {s2 : β → α → S → β2 → S} {T2 : β → α → S → β2 → Option (Option δ × S)} {y : β → α → S → β2 → β3 → δ} {s3 : β → α → S → β2 → β3 → S} (nd : X.N.Nodup)
    (hi : PI X tg iter (tI W F Γ Δ T (fun b => (compM (xs b) (s0 b) (f b)).bind fun r => k (b, r)) Ex xs Δ1)) (ok : BlkOk X.N X.env.scope scope own) (hg : Blk X scope fun Y => PG Y tg g) (ht : TgtW g Ex bd (own.map (·.2))) (h0 : ∀ b, Δ1 b = C b (s0 b))
    (hc : ∀ d, Blk X scope fun Y => ∀ b x s, PTs Y ifs (tTs W F (bd (wipeG Γ (own.map (·.2))) x) (C b s ++ [d]) (f b x s) (fun b2 => if c b x s b2 = true then T2 b x s b2 else some (none, s2 b x s b2)) (c b x s) fun b2 => C b (s2 b x s b2) ++ [d]))
    (he : ∀ d, Blk X scope fun Y => ∀ b x s b2, PE Y elt (tE W F (bd (wipeG Γ (own.map (·.2))) x) (C b (s2 b x s b2) ++ [d]) (T2 b x s b2) (fun b3 => some (some (y b x s b2 b3), s3 b x s b2 b3)) (fun b3 => Ee (y b x s b2 b3)) fun b3 => C b (s3 b x s b2 b3) ++ [d]))
    (hsw : swapsWith (.ListComp elt [⟨tg, iter, ifs, 0⟩] scope pos) (some (.Name yv py)) spos.line X.env = pure true) (hy : X.N[i]? = some yv := by rfl) (hyl : X.env.scope.names.lookup yv = some .local := by rfl) (hcm : X.calm = true := by rfl) (hs : ∀ x, foldedSetIterable iter X.env x = pure x := by intro _; rfl) :
    PS X (.Assign [.Name yv py] (.ListComp elt [⟨tg, iter, ifs, 0⟩] scope pos) spos) (tAsg (tO W F Γ Δ T k (fun b => oL Ee b.2.1) fun b => C b.1 b.2.2) (gName i)) :=
  a_lc0 (out := fun b => b.2.1) nd hi (fun _ _ h => bind_some h) (fun _ _ _ => rfl) ok hg ht h0 hc he hsw hy hyl hcm hs
theorem compM_tot {α δ : Type} {c : α → Bool} {y : α → δ} : ∀ xs : List α, compM xs () (fun x _ => if c x = true then some (some (y x), ()) else some (none, ())) = some ((xs.filter c).map y, ())
  | [] => rfl
  | x :: xs => by
    show ((if c x = true then _ else _ : Option (Option δ × Unit)).bind _) = _
    cases h : c x with
    | true =>
      rw [if_pos rfl]
      show ((compM xs () _).bind _) = _
      rw [compM_tot xs, List.filter_cons_of_pos h]
      rfl
    | false =>
      rw [if_neg Bool.false_ne_true]
      show ((compM xs () _).bind _) = _
      rw [compM_tot xs, List.filter_cons_of_neg (by rw [h]; exact Bool.false_ne_true)]
      rfl
/-- .. nothing fails, nothing changes -/
theorem x_lcT {elt tg iter : Expr} {ifs : List Expr} {scope : Scope} {own : List (Str × Nat)} {pos : Pos} {g : TG} {α β δ : Type} {T : Option γ} {k : β → Option γ} {Ex : α → Pd} {Ee : δ → Pd} {bd : Gm → α → Gm} {xs : β → List α} {Δ1 : β → Δs}
    {c : β → α → Bool} {y : β → α → δ} (nd : X.N.Nodup) (hi : PI X tg iter (tI W F Γ Δ T k Ex xs Δ1)) (ok : BlkOk X.N X.env.scope scope own) (hg : Blk X scope fun Y => PG Y tg g) (ht : TgtW g Ex bd (own.map (·.2)))
    (hc : ∀ d, Blk X scope fun Y => ∀ b x, ∀ (γ : Type) (T' : Option γ), PTs Y ifs (tTs W F (bd (wipeG Γ (own.map (·.2))) x) (Δ1 b ++ [d]) T' (fun _ : Unit => T') (fun _ => c b x) fun _ => Δ1 b ++ [d]))
    (he : ∀ d, Blk X scope fun Y => ∀ b x, ∀ (γ : Type) (T' : Option γ), PE Y elt (tE W F (bd (wipeG Γ (own.map (·.2))) x) (Δ1 b ++ [d]) T' (fun _ : Unit => T') (fun _ => Ee (y b x)) fun _ => Δ1 b ++ [d]))
    (hcm : X.calm = true := by rfl) (hs : ∀ x, foldedSetIterable iter X.env x = pure x := by intro _; rfl) :
    PE X (.ListComp elt [⟨tg, iter, ifs, 0⟩] scope pos) (tO W F Γ Δ T k (fun b => oL Ee (((xs b).filter (c b)).map (y b))) Δ1) :=
  o_drop (ρ := List δ × Unit) (x_lc0 (S := Unit) (β2 := Unit) (β3 := Unit) (k := fun b => k b.1) (out := fun b => ((xs b.1).filter (c b.1)).map (y b.1)) (C := fun b _ => Δ1 b) (s0 := fun _ => ()) (c := fun b x _ _ => c b x) (s2 := fun _ _ _ _ => ()) (s3 := fun _ _ _ _ _ => ()) (y := fun b x _ _ _ => y b x)
    (T2 := fun b x _ _ => some (some (y b x), ())) (f := fun b x _ => if c b x = true then some (some (y b x), ()) else some (none, ())) nd hi (fun b g h => ⟨_, compM_tot _, h⟩) (fun b r h => by rw [compM_tot] at h; cases h; rfl) ok hg ht (fun _ => rfl) (fun d s H C cl fp b x _ => hc d s H C cl fp b x _ _) (fun d s H C cl fp b x _ _ => he d s H C cl fp b x _ _) hcm hs)
theorem s_drop {β ρ : Type} {st : Stmt} {i : Nat} {T : Option γ} {k : β → Option γ} {D : β → Od} {Δ' : β → Δs} (h : PS X st (tAsg (tO W F Γ Δ T (fun b : β × ρ => k b.1) (fun b => D b.1) fun b => Δ' b.1) (gName i))) : PS X st (tAsg (tO W F Γ Δ T k D Δ') (gName i)) :=
  h.wk fun D σ H ⟨ok, g, e, q⟩ => ⟨ok, g, e, fun b v G H' kb f nw ok' => q b.1 v G H' kb f nw ok'⟩
theorem a_lcT {elt tg iter : Expr} {ifs : List Expr} {scope : Scope} {own : List (Str × Nat)} {pos py spos : Pos} {i : Nat} {yv : Str} {g : TG} {α β δ : Type} {T : Option γ} {k : β → Option γ} {Ex : α → Pd} {Ee : δ → Pd} {bd : Gm → α → Gm} {xs : β → List α} {Δ1 : β → Δs}
    {c : β → α → Bool} {y : β → α → δ} (nd : X.N.Nodup) (hi : PI X tg iter (tI W F Γ Δ T k Ex xs Δ1)) (ok : BlkOk X.N X.env.scope scope own) (hg : Blk X scope fun Y => PG Y tg g) (ht : TgtW g Ex bd (own.map (·.2)))
    (hc : ∀ d, Blk X scope fun Y => ∀ b x, ∀ (γ : Type) (T' : Option γ), PTs Y ifs (tTs W F (bd (wipeG Γ (own.map (·.2))) x) (Δ1 b ++ [d]) T' (fun _ : Unit => T') (fun _ => c b x) fun _ => Δ1 b ++ [d]))
    (he : ∀ d, Blk X scope fun Y => ∀ b x, ∀ (γ : Type) (T' : Option γ), PE Y elt (tE W F (bd (wipeG Γ (own.map (·.2))) x) (Δ1 b ++ [d]) T' (fun _ : Unit => T') (fun _ => Ee (y b x)) fun _ => Δ1 b ++ [d]))
    (hsw : swapsWith (.ListComp elt [⟨tg, iter, ifs, 0⟩] scope pos) (some (.Name yv py)) spos.line X.env = pure true) (hy : X.N[i]? = some yv := by rfl) (hyl : X.env.scope.names.lookup yv = some .local := by rfl) (hcm : X.calm = true := by rfl) (hs : ∀ x, foldedSetIterable iter X.env x = pure x := by intro _; rfl) :
    PS X (.Assign [.Name yv py] (.ListComp elt [⟨tg, iter, ifs, 0⟩] scope pos) spos) (tAsg (tO W F Γ Δ T k (fun b => oL Ee (((xs b).filter (c b)).map (y b))) Δ1) (gName i)) :=
  s_drop (ρ := List δ × Unit) (a_lc0 (S := Unit) (β2 := Unit) (β3 := Unit) (k := fun b => k b.1) (out := fun b => ((xs b.1).filter (c b.1)).map (y b.1)) (C := fun b _ => Δ1 b) (s0 := fun _ => ()) (c := fun b x _ _ => c b x) (s2 := fun _ _ _ _ => ()) (s3 := fun _ _ _ _ _ => ()) (y := fun b x _ _ _ => y b x)
    (T2 := fun b x _ _ => some (some (y b x), ())) (f := fun b x _ => if c b x = true then some (some (y b x), ()) else some (none, ())) nd hi (fun b g h => ⟨_, compM_tot _, h⟩) (fun b r h => by rw [compM_tot] at h; cases h; rfl) ok hg ht (fun _ => rfl) (fun d s H C cl fp b x _ => hc d s H C cl fp b x _ _) (fun d s H C cl fp b x _ _ => he d s H C cl fp b x _ _) hsw hy hyl hcm hs)
theorem pts_T {Y : Cx} {Γ : Gm} {Δ : Δs} {T : Option γ} : PTs Y [] (tTs W F Γ Δ T (fun _ : Unit => T) (fun _ => true) fun _ => Δ) := ⟨fun pins s σ H Q I ⟨ok, g, e, q⟩ => pts_nil.run pins s σ H Q I (q () H e (St.refl H) ok)⟩
end
end L3
end
section
set_option Elab.async false
set_option linter.all false
set_option maxRecDepth 100000
set_option maxHeartbeats 4000000
namespace L3
open PySem PySem.Spec PyProof.Rows L2
section
variable {X : Cx} {W : List Addr} {F : Fm} {Γ : Gm} {Δ : Δs} {γ : Type}
theorem x_is {β : Type} {e : Expr} {T T' : Option γ} {k : β → Option γ} {E : β → Pd} {Δ' : β → Δs} (he : PE X e (tE W F Γ Δ T' k E Δ')) (h : T = T') : PE X e (tE W F Γ Δ T k E Δ') := by rw [h]; exact he
theorem o_is {β : Type} {e : Expr} {T T' : Option γ} {k : β → Option γ} {E : β → Od} {Δ' : β → Δs} (he : PE X e (tO W F Γ Δ T' k E Δ')) (h : T = T') : PE X e (tO W F Γ Δ T k E Δ') := by rw [h]; exact he
/-! ### membership -/
theorem inV_ints (i : Int) : ∀ xs : List Int, inV (.int i) (xs.map V.int) = decide (i ∈ xs)
  | [] => by simp [inV]
  | x :: xs => by
    have ih := inV_ints i xs
    unfold inV at ih ⊢
    rw [List.map_cons, List.any_cons, ih]
    show ((x == i) || decide (i ∈ xs)) = decide (i ∈ x :: xs)
    by_cases h : x = i
    · simp [h]
    · have h2 : ¬ i = x := fun z => h z.symm
      simp [h, h2]
theorem inV_strs (i : Str) : ∀ xs : List Str, inV (.str i) (xs.map V.str) = decide (i ∈ xs)
  | [] => by simp [inV]
  | x :: xs => by
    have ih := inV_strs i xs
    unfold inV at ih ⊢
    rw [List.map_cons, List.any_cons, ih]
    show ((x == i) || decide (i ∈ xs)) = decide (i ∈ x :: xs)
    by_cases h : x = i
    · simp [h]
    · have h2 : ¬ i = x := fun z => h z.symm
      simp [h, h2]
theorem flat_ints : ∀ xs : List Int, (xs.map V.int).all flatV = true
  | [] => rfl
  | _ :: xs => flat_ints xs
theorem flat_strs : ∀ xs : List Str, (xs.map V.str).all flatV = true
  | [] => rfl
  | _ :: xs => flat_strs xs
/-- a flat kind of values: what `in` asks -/
structure Flat {α : Type} [DecidableEq α] (E : α → Pd) where
  mp : α → V
  eq : ∀ {x H v}, (E x).pr H v → v = mp x
  rel : ∀ {x H}, (E x).pr H (mp x)
  fl : ∀ x, flatV (mp x) = true
  one : ∀ x y, eqV (mp x) (mp y) = decide (x = y)
def flInt : Flat pInt := ⟨V.int, fun h => h, rfl, fun _ => rfl, fun x y => by show (x == y) = _; by_cases h : x = y <;> simp [h]⟩
def flStr : Flat pStr := ⟨V.str, fun h => h, rfl, fun _ => rfl, fun x y => by show (x == y) = _; by_cases h : x = y <;> simp [h]⟩
def flBl : Flat pBl := ⟨V.bl, fun h => h, rfl, fun _ => rfl, fun x y => by show (x == y) = _; by_cases h : x = y <;> simp [h]⟩
theorem flat_vals {α : Type} {E : α → Pd} [DecidableEq α] (fl : Flat E) {H : Hp} : ∀ {xs : List α} {vs : List V}, Paired (fun x u => (E x).pr H u) xs vs → vs = xs.map fl.mp
  | _, _, .nil => rfl
  | _, _, .cons r t => by rw [List.map_cons, ← flat_vals fl t, fl.eq r]
theorem flat_in {α : Type} {E : α → Pd} [DecidableEq α] (fl : Flat E) (i : α) : ∀ xs : List α, inV (fl.mp i) (xs.map fl.mp) = decide (i ∈ xs)
  | [] => by simp [inV]
  | x :: xs => by
    have ih := flat_in fl i xs
    unfold inV at ih ⊢
    rw [List.map_cons, List.any_cons, ih, fl.one]
    by_cases h : x = i
    · simp [h]
    · have h2 : ¬ i = x := fun z => h z.symm
      simp [h, h2]
theorem flat_all {α : Type} {E : α → Pd} [DecidableEq α] (fl : Flat E) : ∀ xs : List α, (xs.map fl.mp).all flatV = true
  | [] => rfl
  | x :: xs => by rw [List.map_cons, List.all_cons, fl.fl, flat_all fl xs]; rfl
section
variable {a b : Expr} {pos : Pos} {β1 β2 α : Type} [DecidableEq α] {T : Option γ} {k1 : β1 → Option γ} {k : β1 × β2 → Option γ} {Δ1 : β1 → Δs} {Δ2 : β1 → β2 → Δs} {Ee : α → Pd} {i : β1 → α} {E2 : β1 → β2 → Pd} {xs : β1 → β2 → List α}
theorem v_inL (fl : Flat Ee) {neg : Bool} (rd : ∀ b1 b2, RdL (Δ2 b1 b2) (E2 b1 b2) Ee (xs b1 b2)) : ∀ b1 b2 σ v w H Q, Ok F Γ (Δ2 b1 b2) σ H → (Ee (i b1)).pr H v → (E2 b1 b2).pr H w → (∀ u, (pBl (if neg then !decide (i b1 ∈ xs b1 b2) else decide (i b1 ∈ xs b1 b2))).pr H u → Q u H) → rIn X.K neg v w H Q :=
  fun b1 b2 σ v w H Q ok hv hw q => by
    obtain ⟨p, vs, ev, sq, _, pr⟩ := (rd b1 b2 F H w ok.hk hw).sq (K := X.K)
    have e1 := flat_vals fl pr
    subst e1
    have e2 := fl.eq hv
    subst e2
    refine ⟨p, _, ev, .inl sq, fl.fl _, flat_all fl _, ?_⟩
    rw [flat_in fl]
    exact q _ rfl
theorem x_inL (fl : Flat Ee) (ha : PE X a (tE W F Γ Δ T k1 (fun b => Ee (i b)) Δ1)) (hb : ∀ b1, PE X b (tE W F Γ (Δ1 b1) (k1 b1) (fun b2 => k (b1, b2)) (E2 b1) (Δ2 b1))) (rd : ∀ b1 b2, RdL (Δ2 b1 b2) (E2 b1 b2) Ee (xs b1 b2)) (hm : behindInMarks .In b = false := by rfl) :
    PE X (.Compare a [.In] [b] pos) (tE W F Γ Δ T k (fun b => pBl (decide (i b.1 ∈ xs b.1 b.2))) fun b => Δ2 b.1 b.2) := x2t (b_cmp op_in_seq hm) ha hb (v_inL (neg := false) fl rd)
theorem x_ninL (fl : Flat Ee) (ha : PE X a (tE W F Γ Δ T k1 (fun b => Ee (i b)) Δ1)) (hb : ∀ b1, PE X b (tE W F Γ (Δ1 b1) (k1 b1) (fun b2 => k (b1, b2)) (E2 b1) (Δ2 b1))) (rd : ∀ b1 b2, RdL (Δ2 b1 b2) (E2 b1 b2) Ee (xs b1 b2)) (hm : behindInMarks .NotIn b = false := by rfl) :
    PE X (.Compare a [.NotIn] [b] pos) (tE W F Γ Δ T k (fun b => pBl (!decide (i b.1 ∈ xs b.1 b.2))) fun b => Δ2 b.1 b.2) := x2t (b_cmp op_notIn_seq hm) ha hb (v_inL (neg := true) fl rd)
theorem t_inL (fl : Flat Ee) (ha : PE X a (tE W F Γ Δ T k1 (fun b => Ee (i b)) Δ1)) (hb : ∀ b1, PE X b (tE W F Γ (Δ1 b1) (k1 b1) (fun b2 => k (b1, b2)) (E2 b1) (Δ2 b1))) (rd : ∀ b1 b2, RdL (Δ2 b1 b2) (E2 b1 b2) Ee (xs b1 b2)) (hm : behindInMarks .In b = false := by rfl) :
    PT X (.Compare a [.In] [b] pos) (tTs W F Γ Δ T k (fun b => decide (i b.1 ∈ xs b.1 b.2)) fun b => Δ2 b.1 b.2) := t2t (bt_cmp op_in_seq hm) ha hb (v_inL (neg := false) fl rd)
theorem t_ninL (fl : Flat Ee) (ha : PE X a (tE W F Γ Δ T k1 (fun b => Ee (i b)) Δ1)) (hb : ∀ b1, PE X b (tE W F Γ (Δ1 b1) (k1 b1) (fun b2 => k (b1, b2)) (E2 b1) (Δ2 b1))) (rd : ∀ b1 b2, RdL (Δ2 b1 b2) (E2 b1 b2) Ee (xs b1 b2)) (hm : behindInMarks .NotIn b = false := by rfl) :
    PT X (.Compare a [.NotIn] [b] pos) (tTs W F Γ Δ T k (fun b => !decide (i b.1 ∈ xs b.1 b.2)) fun b => Δ2 b.1 b.2) := t2t (bt_cmp op_notIn_seq hm) ha hb (v_inL (neg := true) fl rd)
/-! equality of flat things -/
theorem v_eqF (fl : Flat Ee) (sc : ∀ x y, scal (fl.mp x) (fl.mp y) = true) (inj : ∀ x y, fl.mp x = fl.mp y → x = y) {j : β1 → β2 → α} : ∀ b1 b2 σ v w H Q, Ok F Γ (Δ2 b1 b2) σ H → (Ee (i b1)).pr H v → (Ee (j b1 b2)).pr H w → (∀ u, (pBl (decide (i b1 = j b1 b2))).pr H u → Q u H) → rEq v w H Q :=
  fun b1 b2 σ v w H Q ok hv hw q => by
    rw [fl.eq hv, fl.eq hw]
    refine ⟨sc _ _, q _ ?_⟩
    show V.bl _ = V.bl _
    congr 1
    by_cases z : i b1 = j b1 b2
    · rw [z]; simp
    · rw [decide_eq_false z, decide_eq_false fun y => z (inj _ _ y)]
theorem v_neF (fl : Flat Ee) (sc : ∀ x y, scal (fl.mp x) (fl.mp y) = true) (inj : ∀ x y, fl.mp x = fl.mp y → x = y) {j : β1 → β2 → α} : ∀ b1 b2 σ v w H Q, Ok F Γ (Δ2 b1 b2) σ H → (Ee (i b1)).pr H v → (Ee (j b1 b2)).pr H w → (∀ u, (pBl (!decide (i b1 = j b1 b2))).pr H u → Q u H) → rNe v w H Q :=
  fun b1 b2 σ v w H Q ok hv hw q => by
    rw [fl.eq hv, fl.eq hw]
    refine ⟨sc _ _, q _ ?_⟩
    show V.bl _ = V.bl _
    congr 1
    by_cases z : i b1 = j b1 b2
    · rw [z]; simp
    · rw [decide_eq_false z, decide_eq_false fun y => z (inj _ _ y)]
end
section
variable {a b : Expr} {pos : Pos} {β1 β2 : Type} {T : Option γ} {k1 : β1 → Option γ} {k : β1 × β2 → Option γ} {Δ1 : β1 → Δs} {Δ2 : β1 → β2 → Δs} {i : β1 → Str} {j : β1 → β2 → Str} {c : β1 → Bool} {d : β1 → β2 → Bool}
theorem x_eqS (ha : PE X a (tE W F Γ Δ T k1 (fun b => pStr (i b)) Δ1)) (hb : ∀ b1, PE X b (tE W F Γ (Δ1 b1) (k1 b1) (fun b2 => k (b1, b2)) (fun b => pStr (j b1 b)) (Δ2 b1))) : PE X (.Compare a [.Eq] [b] pos) (tE W F Γ Δ T k (fun b => pBl (decide (i b.1 = j b.1 b.2))) fun b => Δ2 b.1 b.2) := x2t (b_cmp op_eq (nomark _)) ha hb (v_eqF flStr (fun _ _ => rfl) fun _ _ h => V.str.inj h)
theorem x_neS (ha : PE X a (tE W F Γ Δ T k1 (fun b => pStr (i b)) Δ1)) (hb : ∀ b1, PE X b (tE W F Γ (Δ1 b1) (k1 b1) (fun b2 => k (b1, b2)) (fun b => pStr (j b1 b)) (Δ2 b1))) : PE X (.Compare a [.NotEq] [b] pos) (tE W F Γ Δ T k (fun b => pBl (!decide (i b.1 = j b.1 b.2))) fun b => Δ2 b.1 b.2) := x2t (b_cmp op_ne (nomark _)) ha hb (v_neF flStr (fun _ _ => rfl) fun _ _ h => V.str.inj h)
theorem t_eqS (ha : PE X a (tE W F Γ Δ T k1 (fun b => pStr (i b)) Δ1)) (hb : ∀ b1, PE X b (tE W F Γ (Δ1 b1) (k1 b1) (fun b2 => k (b1, b2)) (fun b => pStr (j b1 b)) (Δ2 b1))) : PT X (.Compare a [.Eq] [b] pos) (tTs W F Γ Δ T k (fun b => decide (i b.1 = j b.1 b.2)) fun b => Δ2 b.1 b.2) := t2t (bt_cmp op_eq (nomark _)) ha hb (v_eqF flStr (fun _ _ => rfl) fun _ _ h => V.str.inj h)
theorem t_neS (ha : PE X a (tE W F Γ Δ T k1 (fun b => pStr (i b)) Δ1)) (hb : ∀ b1, PE X b (tE W F Γ (Δ1 b1) (k1 b1) (fun b2 => k (b1, b2)) (fun b => pStr (j b1 b)) (Δ2 b1))) : PT X (.Compare a [.NotEq] [b] pos) (tTs W F Γ Δ T k (fun b => !decide (i b.1 = j b.1 b.2)) fun b => Δ2 b.1 b.2) := t2t (bt_cmp op_ne (nomark _)) ha hb (v_neF flStr (fun _ _ => rfl) fun _ _ h => V.str.inj h)
theorem x_eqB (ha : PE X a (tE W F Γ Δ T k1 (fun b => pBl (c b)) Δ1)) (hb : ∀ b1, PE X b (tE W F Γ (Δ1 b1) (k1 b1) (fun b2 => k (b1, b2)) (fun b => pBl (d b1 b)) (Δ2 b1))) : PE X (.Compare a [.Eq] [b] pos) (tE W F Γ Δ T k (fun b => pBl (decide (c b.1 = d b.1 b.2))) fun b => Δ2 b.1 b.2) := x2t (b_cmp op_eq (nomark _)) ha hb (v_eqF flBl (fun _ _ => rfl) fun _ _ h => V.bl.inj h)
theorem x_neB (ha : PE X a (tE W F Γ Δ T k1 (fun b => pBl (c b)) Δ1)) (hb : ∀ b1, PE X b (tE W F Γ (Δ1 b1) (k1 b1) (fun b2 => k (b1, b2)) (fun b => pBl (d b1 b)) (Δ2 b1))) : PE X (.Compare a [.NotEq] [b] pos) (tE W F Γ Δ T k (fun b => pBl (!decide (c b.1 = d b.1 b.2))) fun b => Δ2 b.1 b.2) := x2t (b_cmp op_ne (nomark _)) ha hb (v_neF flBl (fun _ _ => rfl) fun _ _ h => V.bl.inj h)
theorem t_eqB (ha : PE X a (tE W F Γ Δ T k1 (fun b => pBl (c b)) Δ1)) (hb : ∀ b1, PE X b (tE W F Γ (Δ1 b1) (k1 b1) (fun b2 => k (b1, b2)) (fun b => pBl (d b1 b)) (Δ2 b1))) : PT X (.Compare a [.Eq] [b] pos) (tTs W F Γ Δ T k (fun b => decide (c b.1 = d b.1 b.2)) fun b => Δ2 b.1 b.2) := t2t (bt_cmp op_eq (nomark _)) ha hb (v_eqF flBl (fun _ _ => rfl) fun _ _ h => V.bl.inj h)
theorem t_neB (ha : PE X a (tE W F Γ Δ T k1 (fun b => pBl (c b)) Δ1)) (hb : ∀ b1, PE X b (tE W F Γ (Δ1 b1) (k1 b1) (fun b2 => k (b1, b2)) (fun b => pBl (d b1 b)) (Δ2 b1))) : PT X (.Compare a [.NotEq] [b] pos) (tTs W F Γ Δ T k (fun b => !decide (c b.1 = d b.1 b.2)) fun b => Δ2 b.1 b.2) := t2t (bt_cmp op_ne (nomark _)) ha hb (v_neF flBl (fun _ _ => rfl) fun _ _ h => V.bl.inj h)
end
/-! ### equality of lists and tuples -/
structure Dt {α : Type} [DecidableEq α] (E : α → Pd) where
  toD : α → PyData
  dp : ∀ {K H v x}, (E x).pr H v → Dp K H v (toD x)
  dep : Nat
  can : ∀ x, (toD x).canLay0 = true
  deep : ∀ x, (toD x).depth ≤ dep
  eq : ∀ x y, PyData.eqv (toD x) (toD y) = decide (x = y)
def dtInt : Dt pInt := ⟨.int, fun h => by rw [h]; exact .int _, 0, fun _ => rfl, fun _ => Nat.le_refl 0, fun x y => by show (x == y) = _; by_cases h : x = y <;> simp [h]⟩
def dtBl : Dt pBl := ⟨.bool, fun h => by rw [h]; exact .bl _, 0, fun _ => rfl, fun _ => Nat.le_refl 0, fun x y => by show (x == y) = _; by_cases h : x = y <;> simp [h]⟩
theorem dp_all {α : Type} {E : α → Pd} [DecidableEq α] (d : Dt E) {K : PySem.W.Frag} {H : Hp} : ∀ {xs : List α} {vs : List V}, Paired (fun x u => (E x).pr H u) xs vs → DpAll K H vs (xs.map d.toD)
  | _, _, .nil => .nil
  | _, _, .cons r t => .cons (d.dp r) (dp_all d t)
theorem can_all {α : Type} {E : α → Pd} [DecidableEq α] (d : Dt E) : ∀ xs : List α, PyData.canLayAll0 (xs.map d.toD) = true
  | [] => rfl
  | x :: xs => by
    show (PyData.canLay0 (d.toD x) && PyData.canLayAll0 (xs.map d.toD)) = true
    rw [d.can, can_all d xs]; rfl
theorem deep_all {α : Type} {E : α → Pd} [DecidableEq α] (d : Dt E) : ∀ xs : List α, PyData.depthAll (xs.map d.toD) ≤ d.dep
  | [] => Nat.zero_le _
  | x :: xs => Nat.max_le.mpr ⟨d.deep x, deep_all d xs⟩
theorem eqv_all {α : Type} {E : α → Pd} [DecidableEq α] (d : Dt E) : ∀ xs ys : List α, PyData.eqvAll (xs.map d.toD) (ys.map d.toD) = decide (xs = ys)
  | [], [] => rfl
  | [], _ :: _ => rfl
  | _ :: _, [] => rfl
  | x :: xs, y :: ys => by
    show (PyData.eqv (d.toD x) (d.toD y) && PyData.eqvAll (xs.map d.toD) (ys.map d.toD)) = _
    rw [d.eq, eqv_all d xs ys]
    by_cases h : x = y <;> by_cases h2 : xs = ys <;> simp [h, h2]
def dtL {α : Type} {E : α → Pd} [DecidableEq α] (d : Dt E) : Dt (pL E) := ⟨fun xs => .list (xs.map d.toD), fun ⟨a, o, vs, e, h, z, p⟩ => by rw [e]; exact .lst (.inl (.inr ⟨o, h⟩)) (dp_all d p), d.dep + 1, fun xs => can_all d xs, fun xs => Nat.succ_le_succ (deep_all d xs), fun xs ys => eqv_all d xs ys⟩
def dtTL {α : Type} {E : α → Pd} [DecidableEq α] (d : Dt E) : Dt (pTL E) := ⟨fun xs => .tuple (xs.map d.toD), fun ⟨a, vs, e, h, z, p⟩ => by rw [e]; exact .tup (.inl (.inl h)) (dp_all d p), d.dep + 1, fun xs => can_all d xs, fun xs => Nat.succ_le_succ (deep_all d xs), fun xs ys => eqv_all d xs ys⟩
section
variable {a b : Expr} {pos : Pos} {β1 β2 α : Type} [DecidableEq α] {T : Option γ} {k1 : β1 → Option γ} {k : β1 × β2 → Option γ} {Δ1 : β1 → Δs} {Δ2 : β1 → β2 → Δs} {Ee : α → Pd} {E1 : β1 → Pd} {E2 : β1 → β2 → Pd} {xs ys : β1 → β2 → List α}
theorem RL.dp {α : Type} {E : α → Pd} [DecidableEq α] (d : Dt E) {xs : List α} {H : Hp} {v : V} {K : PySem.W.Frag} (h : RL E xs H v) : Dp K H v (.list (xs.map d.toD)) := by
  obtain ⟨a, vs, e, sq, z, p⟩ := h.sq (K := K)
  rw [e]
  exact .lst sq (dp_all d p)
theorem shaped_l {α : Type} {E : α → Pd} [DecidableEq α] (d : Dt E) (hd : d.dep < 60) (xs : List α) : SeqAt.shaped (.list (xs.map d.toD)) = true := by
  show (PyData.canLayAll0 (xs.map d.toD) && decide (PyData.depthAll (xs.map d.toD) + 1 ≤ 64)) = true
  rw [can_all d xs, decide_eq_true (by have := deep_all d xs; omega)]; rfl
theorem v_eqL (d : Dt Ee) (hd : d.dep < 60) (r1 : ∀ b1 b2, RdL (Δ2 b1 b2) (E1 b1) Ee (xs b1 b2)) (r2 : ∀ b1 b2, RdL (Δ2 b1 b2) (E2 b1 b2) Ee (ys b1 b2)) : ∀ b1 b2 σ v w H Q, Ok F Γ (Δ2 b1 b2) σ H → (E1 b1).pr H v → (E2 b1 b2).pr H w → (∀ u, (pBl (decide (xs b1 b2 = ys b1 b2))).pr H u → Q u H) → rEqD X.K v w H Q :=
  fun b1 b2 σ v w H Q ok hv hw q => ⟨_, _, (r1 b1 b2 F H v ok.hk hv).dp d, (r2 b1 b2 F H w ok.hk hw).dp d, shaped_l d hd _, shaped_l d hd _, by
    show Q (.bl (PyData.eqvAll _ _)) H
    rw [eqv_all d]
    exact q _ rfl⟩
theorem v_neL (d : Dt Ee) (hd : d.dep < 60) (r1 : ∀ b1 b2, RdL (Δ2 b1 b2) (E1 b1) Ee (xs b1 b2)) (r2 : ∀ b1 b2, RdL (Δ2 b1 b2) (E2 b1 b2) Ee (ys b1 b2)) : ∀ b1 b2 σ v w H Q, Ok F Γ (Δ2 b1 b2) σ H → (E1 b1).pr H v → (E2 b1 b2).pr H w → (∀ u, (pBl (!decide (xs b1 b2 = ys b1 b2))).pr H u → Q u H) → rNeD X.K v w H Q :=
  fun b1 b2 σ v w H Q ok hv hw q => ⟨_, _, (r1 b1 b2 F H v ok.hk hv).dp d, (r2 b1 b2 F H w ok.hk hw).dp d, shaped_l d hd _, shaped_l d hd _, by
    show Q (.bl (!PyData.eqvAll _ _)) H
    rw [eqv_all d]
    exact q _ rfl⟩
theorem x_eqL (hu : X.A.units + 64 < cLine) (d : Dt Ee) (ha : PE X a (tE W F Γ Δ T k1 E1 Δ1)) (hb : ∀ b1, PE X b (tE W F Γ (Δ1 b1) (k1 b1) (fun b2 => k (b1, b2)) (E2 b1) (Δ2 b1))) (r1 : ∀ b1 b2, RdL (Δ2 b1 b2) (E1 b1) Ee (xs b1 b2)) (r2 : ∀ b1 b2, RdL (Δ2 b1 b2) (E2 b1 b2) Ee (ys b1 b2)) (hd : d.dep < 60 := by decide) :
    PE X (.Compare a [.Eq] [b] pos) (tE W F Γ Δ T k (fun b => pBl (decide (xs b.1 b.2 = ys b.1 b.2))) fun b => Δ2 b.1 b.2) := x2t (b_cmp (op_eqD hu) (nomark _)) ha hb (v_eqL d hd r1 r2)
theorem x_neL (hu : X.A.units + 64 < cLine) (d : Dt Ee) (ha : PE X a (tE W F Γ Δ T k1 E1 Δ1)) (hb : ∀ b1, PE X b (tE W F Γ (Δ1 b1) (k1 b1) (fun b2 => k (b1, b2)) (E2 b1) (Δ2 b1))) (r1 : ∀ b1 b2, RdL (Δ2 b1 b2) (E1 b1) Ee (xs b1 b2)) (r2 : ∀ b1 b2, RdL (Δ2 b1 b2) (E2 b1 b2) Ee (ys b1 b2)) (hd : d.dep < 60 := by decide) :
    PE X (.Compare a [.NotEq] [b] pos) (tE W F Γ Δ T k (fun b => pBl (!decide (xs b.1 b.2 = ys b.1 b.2))) fun b => Δ2 b.1 b.2) := x2t (b_cmp (op_neD hu) (nomark _)) ha hb (v_neL d hd r1 r2)
theorem t_eqL (hu : X.A.units + 64 < cLine) (d : Dt Ee) (ha : PE X a (tE W F Γ Δ T k1 E1 Δ1)) (hb : ∀ b1, PE X b (tE W F Γ (Δ1 b1) (k1 b1) (fun b2 => k (b1, b2)) (E2 b1) (Δ2 b1))) (r1 : ∀ b1 b2, RdL (Δ2 b1 b2) (E1 b1) Ee (xs b1 b2)) (r2 : ∀ b1 b2, RdL (Δ2 b1 b2) (E2 b1 b2) Ee (ys b1 b2)) (hd : d.dep < 60 := by decide) :
    PT X (.Compare a [.Eq] [b] pos) (tTs W F Γ Δ T k (fun b => decide (xs b.1 b.2 = ys b.1 b.2)) fun b => Δ2 b.1 b.2) := t2t (bt_cmp (op_eqD hu) (nomark _)) ha hb (v_eqL d hd r1 r2)
theorem t_neL (hu : X.A.units + 64 < cLine) (d : Dt Ee) (ha : PE X a (tE W F Γ Δ T k1 E1 Δ1)) (hb : ∀ b1, PE X b (tE W F Γ (Δ1 b1) (k1 b1) (fun b2 => k (b1, b2)) (E2 b1) (Δ2 b1))) (r1 : ∀ b1 b2, RdL (Δ2 b1 b2) (E1 b1) Ee (xs b1 b2)) (r2 : ∀ b1 b2, RdL (Δ2 b1 b2) (E2 b1 b2) Ee (ys b1 b2)) (hd : d.dep < 60 := by decide) :
    PT X (.Compare a [.NotEq] [b] pos) (tTs W F Γ Δ T k (fun b => !decide (xs b.1 b.2 = ys b.1 b.2)) fun b => Δ2 b.1 b.2) := t2t (bt_cmp (op_neD hu) (nomark _)) ha hb (v_neL d hd r1 r2)
end
end
end L3
end
section
set_option Elab.async false
set_option linter.all false
set_option maxRecDepth 100000
set_option maxHeartbeats 4000000
namespace L3
open PySem PySem.Spec PyProof.Rows L2
def cutL {α : Type} (xs : List α) (lo hi : Option Int) : List α := (xs.drop (HT.sIx xs.length 0 lo)).take (HT.sIx xs.length xs.length hi - HT.sIx xs.length 0 lo)
theorem cutL_len {α : Type} (xs : List α) (lo hi : Option Int) : (cutL xs lo hi).length ≤ xs.length := by
  unfold cutL
  rw [List.length_take, List.length_drop]
  omega
theorem paired_cut {α : Type} {P : α → V → Prop} {xs : List α} {vs : List V} (h : Paired P xs vs) (lo hi : Option Int) : Paired P (cutL xs lo hi) (cutV vs lo hi) := by
  unfold cutL cutV
  rw [← paired_len h]
  exact paired_take _ (paired_drop _ h)
def srt (xs : List Int) : List Int := xs.mergeSort fun a b => decide (a ≤ b)
theorem srt_perm (xs : List Int) : (srt xs).Perm xs := List.mergeSort_perm _ _
theorem srt_le (xs : List Int) : (srt xs).Pairwise (· ≤ ·) := by
  have h := List.pairwise_mergeSort (le := fun a b : Int => decide (a ≤ b)) (fun a b c h1 h2 => by
    have h1 := of_decide_eq_true h1
    have h2 := of_decide_eq_true h2
    exact decide_eq_true (by omega)) (fun a b => by
    by_cases h : a ≤ b
    · simp [h]
    · have : b ≤ a := by omega
      simp [this]) xs
  exact h.imp fun h => of_decide_eq_true h
theorem sorted_eq : ∀ {xs ys : List Int}, xs.Perm ys → xs.Pairwise (· ≤ ·) → ys.Pairwise (· ≤ ·) → xs = ys
  | [], ys, p, _, _ => (List.nil_perm.mp p).symm ▸ rfl
  | x :: xs, [], p, _, _ => (List.perm_nil.mp p)
  | x :: xs, y :: ys, p, hx, hy => by
    have e : x = y := by
      have m1 : x ∈ y :: ys := p.mem_iff.mp List.mem_cons_self
      have m2 : y ∈ x :: xs := p.mem_iff.mpr List.mem_cons_self
      have l1 : y ≤ x := by
        rcases List.mem_cons.mp m1 with h | h
        · omega
        · exact (List.pairwise_cons.mp hy).1 x h
      have l2 : x ≤ y := by
        rcases List.mem_cons.mp m2 with h | h
        · omega
        · exact (List.pairwise_cons.mp hx).1 y h
      omega
    subst e
    rw [sorted_eq (List.Perm.cons_inv p) (List.pairwise_cons.mp hx).2 (List.pairwise_cons.mp hy).2]
theorem srt_uniq {xs ys : List Int} (p : ys.Perm xs) (h : ys.Pairwise (· ≤ ·)) : ys = srt xs := sorted_eq (p.trans (srt_perm xs).symm) h (srt_le xs)
section
variable {X : Cx} {W : List Addr} {F : Fm} {Γ : Gm} {Δ : Δs} {γ : Type}
/-! ### slices -/
def tPo {β γ : Type} (W : List Addr) (F : Fm) (Γ : Gm) (Δ : Δs) (T : Option γ) (k : β → Option γ) (o : β → Option Int) (Δ' : β → Δs) : TO := fun σ H Q =>
  Ok F Γ Δ σ H ∧ ∃ g, T = some g ∧ ∀ b H', k b = some g → St W H H' → Ok F Γ (Δ' b) σ H' → Q (o b) H'
theorem _root_.L2.PO.wk {e : Option Expr} {t t' : TO} (h : PO X e t) (w : ∀ σ H Q, t' σ H Q → t σ H Q) : PO X e t' := ⟨fun pins s σ H Q I q => h.run pins s σ H Q I (w σ H Q q)⟩
theorem po_ex {β : Type} {e : Option Expr} {t : β → TO} (h : ∀ b, PO X e (t b)) : PO X e (fun σ H Q => ∃ b, t b σ H Q) := ⟨fun pins s σ H Q I ⟨b, q⟩ => (h b).run pins s σ H Q I q⟩
theorem p_none {k : Unit → Option γ} : PO X none (tPo W F Γ Δ (k ()) k (fun _ => none) fun _ => Δ) := po_none.wk fun σ H Q ⟨ok, g, e, q⟩ => q () H e (St.refl H) ok
theorem p_some {e : Expr} {β : Type} {T : Option γ} {k : β → Option γ} {i : β → Int} {Δ' : β → Δs} (he : PE X e (tE W F Γ Δ T k (fun b => pInt (i b)) Δ')) : PO X (some e) (tPo W F Γ Δ T k (fun b => some (i b)) Δ') :=
  (po_some he).wk fun σ H Q ⟨ok, g, e, q⟩ => ⟨ok, g, e, fun b v H' kb f ok' hv => ⟨i b, hv, q b H' kb f ok'⟩⟩
section
variable {a : Expr} {lo hi : Option Expr} {p2 pos : Pos} {β1 β2 β3 α : Type} {T : Option γ} {k1 : β1 → Option γ} {k2 : β1 → β2 → Option γ} {k : β1 × β2 × β3 → Option γ} {E1 : β1 → Pd} {Ee : α → Pd} {xs : β1 → β2 → β3 → List α} {o1 : β1 → β2 → Option Int} {o2 : β1 → β2 → β3 → Option Int} {Δ1 : β1 → Δs} {Δ2 : β1 → β2 → Δs} {Δ3 : β1 → β2 → β3 → Δs}
theorem x_slL (ha : PE X a (tE W F Γ Δ T k1 E1 Δ1)) (hl : ∀ b1, PO X lo (tPo W F Γ (Δ1 b1) (k1 b1) (k2 b1) (o1 b1) (Δ2 b1))) (hh : ∀ b1 b2, PO X hi (tPo W F Γ (Δ2 b1 b2) (k2 b1 b2) (fun b3 => k (b1, b2, b3)) (o2 b1 b2) (Δ3 b1 b2))) (rd : ∀ b1 b2 b3, RdL (Δ3 b1 b2 b3) (E1 b1) Ee (xs b1 b2 b3)) :
    PE X (.Subscript a (.Slice lo hi none p2) pos) (tO W F Γ Δ T k (fun b => oL Ee (cutL (xs b.1 b.2.1 b.2.2) (o1 b.1 b.2.1) (o2 b.1 b.2.1 b.2.2))) fun b => Δ3 b.1 b.2.1 b.2.2) :=
  (pe_slice sl_list ha (po_ex hl) (po_ex fun b1 => po_ex fun b2 => hh b1 b2)).wk fun σ H Q ⟨ok, g, e, q⟩ => ⟨ok, g, e, fun b1 v H1 kb1 f1 ok1 hv => ⟨b1, ok1, g, kb1, fun b2 H2 kb2 f2 ok2 => ⟨b1, b2, ok2, g, kb2, fun b3 H3 kb3 f3 ok3 => by
    obtain ⟨p, vs, ev, sq, z, pr⟩ := (rd b1 b2 b3 F H3 v ok3.hk ((E1 b1).mono (f2.fz.trans f3.fz) hv)).sq (K := X.K)
    refine ⟨p, vs, ev, sq, fun n nn => ?_⟩
    have st := (f1.trans f2).trans f3
    obtain ⟨o, g'⟩ := ok3.newL nn (Nat.le_trans (cutL_len _ _ _) z) (paired_cut pr (o1 b1 b2) (o2 b1 b2 b3))
    exact q (b1, b2, b3) _ _ _ kb3 (st.trans g'.st) (fun a ha => by rw [List.mem_singleton.mp ha]; exact st.back nn) o⟩⟩⟩
theorem x_slS {z : β1 → Str} (ha : PE X a (tE W F Γ Δ T k1 (fun b => pStr (z b)) Δ1)) (hl : ∀ b1, PO X lo (tPo W F Γ (Δ1 b1) (k1 b1) (k2 b1) (o1 b1) (Δ2 b1))) (hh : ∀ b1 b2, PO X hi (tPo W F Γ (Δ2 b1 b2) (k2 b1 b2) (fun b3 => grd ((z b1).length ≤ sizeLine) (k (b1, b2, b3))) (o2 b1 b2) (Δ3 b1 b2))) :
    PE X (.Subscript a (.Slice lo hi none p2) pos) (tE W F Γ Δ T k (fun b => pStr (cutS (z b.1) (o1 b.1 b.2.1) (o2 b.1 b.2.1 b.2.2))) fun b => Δ3 b.1 b.2.1 b.2.2) :=
  (pe_slice sl_str ha (po_ex hl) (po_ex fun b1 => po_ex fun b2 => hh b1 b2)).wk fun σ H Q ⟨ok, g, e, q⟩ => ⟨ok, g, e, fun b1 v H1 kb1 f1 ok1 hv => ⟨b1, ok1, g, kb1, fun b2 H2 kb2 f2 ok2 => ⟨b1, b2, ok2, g, kb2, fun b3 H3 kb3 f3 ok3 => by
    obtain ⟨c, kb⟩ := grd_some kb3
    exact ⟨z b1, hv, c, q (b1, b2, b3) _ H3 kb ((f1.trans f2).trans f3) ok3 rfl⟩⟩⟩⟩
end
section
variable {a : Expr} {β α : Type} {T : Option γ} {k : β → Option γ} {E1 : β → Pd} {Ee : α → Pd} {xs : β → List α} {Δ1 : β → Δs}
/-- xs[::-1] -/
theorem x_rev {n : Nat} {p1 p2 p3 pos : Pos} (ha : PE X a (tE W F Γ Δ T k E1 Δ1)) (rd : ∀ b, RdL (Δ1 b) (E1 b) Ee (xs b)) : PE X (.Subscript a (.Slice none none (some (.UnaryOp .USub (.Constant (.int 1) n p1) p2)) p3) pos) (tO W F Γ Δ T k (fun b => oL Ee (xs b).reverse) Δ1) :=
  (pe_revL ha).wk fun σ H Q ⟨ok, g, e, q⟩ => ⟨ok, g, e, fun b v H1 kb f ok1 hv => by
    obtain ⟨p, vs, ev, sq, z, pr⟩ := (rd b F H1 v ok1.hk hv).sq (K := X.K)
    refine ⟨p, vs, ev, sq, fun n nn => ?_⟩
    obtain ⟨o, g'⟩ := ok1.newL nn (by rw [List.length_reverse]; exact z) (paired_rev pr)
    exact q b _ _ _ kb (f.trans g'.st) (fun a ha => by rw [List.mem_singleton.mp ha]; exact f.back nn) o⟩
/-! sorted(xs), all(xs), any(xs), sum(xs) -/
variable {p pos : Pos}
theorem x_sortedI {xs : β → List Int} (hm : X.mg "sorted" = none) (ha : PE X a (tE W F Γ Δ T k E1 Δ1)) (rd : ∀ b, RdL (Δ1 b) (E1 b) pInt (xs b)) (hg : Gl X "sorted" := by rfl) (hs : starEach [a] X.env = (false, eval a X.env) :: starEach [] X.env := by rfl) : PE X (.Call (.Name "sorted" p) [a] [] pos) (tO W F Γ Δ T k (fun b => oL pInt (srt (xs b))) Δ1) :=
  x1n (u_callB cr_sortedI hg hm (by decide +kernel) (by decide) (by decide) hs) ha fun b σ v H Q ok hv q => by
    obtain ⟨p, vs, ev, sq, z, pr⟩ := (rd b F H v ok.hk hv).sq (K := X.K)
    have e := paired_ints pr
    subst e
    rw [ev]
    refine ⟨p, xs b, rfl, sq, fun ns' l pm so hl => ?_⟩
    have e := srt_uniq pm so
    subst e
    exact q l _ hl (by rw [(srt_perm _).length_eq]; exact z) (ints_paired _)
theorem x_all {xs : β → List Bool} (hm : X.mg "all" = none) (ha : PE X a (tE W F Γ Δ T k E1 Δ1)) (rd : ∀ b, RdL (Δ1 b) (E1 b) pBl (xs b)) (hg : Gl X "all" := by rfl) (hs : starEach [a] X.env = (false, eval a X.env) :: starEach [] X.env := by rfl) (hc : X.calm = true := by rfl) : PE X (.Call (.Name "all" p) [a] [] pos) (tE W F Γ Δ T k (fun b => pBl ((xs b).all id)) Δ1) :=
  x1t (u_callB (cr_all hc) hg hm (by decide +kernel) (by decide) (by decide) hs) ha fun b σ v H Q ok hv q => by
    obtain ⟨p, vs, ev, sq, z, pr⟩ := (rd b F H v ok.hk hv).sq (K := X.K)
    have e := paired_bls pr
    subst e
    rw [ev]
    exact ⟨p, xs b, rfl, sq, q _ rfl⟩
theorem x_any {xs : β → List Bool} (hm : X.mg "any" = none) (ha : PE X a (tE W F Γ Δ T k E1 Δ1)) (rd : ∀ b, RdL (Δ1 b) (E1 b) pBl (xs b)) (hg : Gl X "any" := by rfl) (hs : starEach [a] X.env = (false, eval a X.env) :: starEach [] X.env := by rfl) (hc : X.calm = true := by rfl) : PE X (.Call (.Name "any" p) [a] [] pos) (tE W F Γ Δ T k (fun b => pBl ((xs b).any id)) Δ1) :=
  x1t (u_callB (cr_any hc) hg hm (by decide +kernel) (by decide) (by decide) hs) ha fun b σ v H Q ok hv q => by
    obtain ⟨p, vs, ev, sq, z, pr⟩ := (rd b F H v ok.hk hv).sq (K := X.K)
    have e := paired_bls pr
    subst e
    rw [ev]
    exact ⟨p, xs b, rfl, sq, q _ rfl⟩
theorem x_sum {xs : β → List Int} (hm : X.mg "sum" = none) (ha : PE X a (tE W F Γ Δ T k E1 Δ1)) (rd : ∀ b, RdL (Δ1 b) (E1 b) pInt (xs b)) (hg : Gl X "sum" := by rfl) (hs : starEach [a] X.env = (false, eval a X.env) :: starEach [] X.env := by rfl) (hc : X.calm = true := by rfl) : PE X (.Call (.Name "sum" p) [a] [] pos) (tE W F Γ Δ T k (fun b => pInt (xs b).sum) Δ1) :=
  x1t (u_callB (cr_sum hc) hg hm (by decide +kernel) (by decide) (by decide) hs) ha fun b σ v H Q ok hv q => by
    obtain ⟨p, vs, ev, sq, z, pr⟩ := (rd b F H v ok.hk hv).sq (K := X.K)
    have e := paired_ints pr
    subst e
    rw [ev]
    exact ⟨p, xs b, rfl, sq, q _ rfl⟩
end
/-! ### tuples by place -/
section
variable {a : Expr} {i : Int} {n : Nat} {p pos : Pos} {β α1 α2 α3 : Type} {T : Option γ} {k : β → Option γ} {A : α1 → Pd} {B : α2 → Pd} {C : α3 → Pd} {Δ1 : β → Δs}
theorem x_fst {x : β → α1 × α2} (ha : PE X a (tE W F Γ Δ T k (fun b => pT2 A B (x b)) Δ1)) : PE X (.Subscript a (.Constant (.int 0) n p) pos) (tE W F Γ Δ T k (fun b => A (x b).1) Δ1) :=
  (pe_ix ix_tup ha pe_int (fun _ _ => rfl)).wk fun σ H Q ⟨ok, g, e, q⟩ => ⟨ok, g, e, fun b v H1 kb f ok1 ⟨t, u, w, ev, h, p1, p2⟩ => ⟨t, [u, w], 0, u, ev, rfl, .inl (.inl h), rfl, q b u H1 kb f ok1 p1⟩⟩
theorem x_snd {x : β → α1 × α2} (ha : PE X a (tE W F Γ Δ T k (fun b => pT2 A B (x b)) Δ1)) : PE X (.Subscript a (.Constant (.int 1) n p) pos) (tE W F Γ Δ T k (fun b => B (x b).2) Δ1) :=
  (pe_ix ix_tup ha pe_int (fun _ _ => rfl)).wk fun σ H Q ⟨ok, g, e, q⟩ => ⟨ok, g, e, fun b v H1 kb f ok1 ⟨t, u, w, ev, h, p1, p2⟩ => ⟨t, [u, w], 1, w, ev, rfl, .inl (.inl h), rfl, q b w H1 kb f ok1 p2⟩⟩
theorem x_t30 {x : β → α1 × α2 × α3} (ha : PE X a (tE W F Γ Δ T k (fun b => pT3 A B C (x b)) Δ1)) : PE X (.Subscript a (.Constant (.int 0) n p) pos) (tE W F Γ Δ T k (fun b => A (x b).1) Δ1) :=
  (pe_ix ix_tup ha pe_int (fun _ _ => rfl)).wk fun σ H Q ⟨ok, g, e, q⟩ => ⟨ok, g, e, fun b v H1 kb f ok1 ⟨t, u, w, z, ev, h, p1, p2, p3⟩ => ⟨t, [u, w, z], 0, u, ev, rfl, .inl (.inl h), rfl, q b u H1 kb f ok1 p1⟩⟩
theorem x_t31 {x : β → α1 × α2 × α3} (ha : PE X a (tE W F Γ Δ T k (fun b => pT3 A B C (x b)) Δ1)) : PE X (.Subscript a (.Constant (.int 1) n p) pos) (tE W F Γ Δ T k (fun b => B (x b).2.1) Δ1) :=
  (pe_ix ix_tup ha pe_int (fun _ _ => rfl)).wk fun σ H Q ⟨ok, g, e, q⟩ => ⟨ok, g, e, fun b v H1 kb f ok1 ⟨t, u, w, z, ev, h, p1, p2, p3⟩ => ⟨t, [u, w, z], 1, w, ev, rfl, .inl (.inl h), rfl, q b w H1 kb f ok1 p2⟩⟩
theorem x_t32 {x : β → α1 × α2 × α3} (ha : PE X a (tE W F Γ Δ T k (fun b => pT3 A B C (x b)) Δ1)) : PE X (.Subscript a (.Constant (.int 2) n p) pos) (tE W F Γ Δ T k (fun b => C (x b).2.2) Δ1) :=
  (pe_ix ix_tup ha pe_int (fun _ _ => rfl)).wk fun σ H Q ⟨ok, g, e, q⟩ => ⟨ok, g, e, fun b v H1 kb f ok1 ⟨t, u, w, z, ev, h, p1, p2, p3⟩ => ⟨t, [u, w, z], 2, z, ev, rfl, .inl (.inl h), rfl, q b z H1 kb f ok1 p3⟩⟩
end
/-! ### xs + ys -/
def rCatR (K : PySem.W.Frag) : R2 := fun x y H Q => ∃ l b xs zs, x = .ref l ∧ y = .ref b ∧ Rd H l (.lst xs) ∧ Rd H b (.lst zs) ∧ xs.length + zs.length ≤ sizeLine ∧ ∀ p, H p = none → Q (.ref p) (upd H p (.lst (xs ++ zs)))
theorem op_catR : OpR X (binaryOp .Add) (rCatR X.K) := fun pins s σ H x y v u Q I rx ry ⟨l, b, xs, zs, ex, ey, hl, hb, hz, q⟩ => by
  subst ex ey
  have e1 : v = Value.ref l := rx
  have e2 : u = Value.ref b := ry
  subst e1 e2
  obtain ⟨z1, i1, n1, r1, g1⟩ := (show ObjOk X.prog X.w H s.heap l (.lst xs) from hl.ok I.hok)
  obtain ⟨z2, i2, n2, r2, g2⟩ := (show ObjOk X.prog X.w H s.heap b (.lst zs) from hb.ok I.hok)
  have l1 := r1.length
  have l2 := r2.length
  refine PySem.P.add_list g1 g2 ?_ (by simp only [List.size_toArray]; omega)
  rw [show i1.toArray ++ i2.toArray = (i1 ++ i2).toArray by simp]
  exact ⟨.ref _, _, I.lnew (t' := s.toks) (r1.append r2) (by simp only [List.length_append]; omega), rfl, q _ I.fresh⟩
section
variable {a b : Expr} {pos : Pos} {β1 β2 α : Type} {T : Option γ} {k1 : β1 → Option γ} {k : β1 × β2 → Option γ} {Δ1 : β1 → Δs} {Δ2 : β1 → β2 → Δs} {Ee : α → Pd} {E1 : β1 → Pd} {E2 : β1 → β2 → Pd} {xs ys : β1 → β2 → List α}
theorem x_cat (ha : PE X a (tE W F Γ Δ T k1 E1 Δ1)) (hb : ∀ b1, PE X b (tE W F Γ (Δ1 b1) (k1 b1) (fun b2 => grd ((xs b1 b2).length + (ys b1 b2).length ≤ sizeLine) (k (b1, b2))) (E2 b1) (Δ2 b1))) (r1 : ∀ b1 b2, RdL (Δ2 b1 b2) (E1 b1) Ee (xs b1 b2)) (r2 : ∀ b1 b2, RdL (Δ2 b1 b2) (E2 b1 b2) Ee (ys b1 b2)) :
    PE X (.BinOp a .Add b pos) (tO W F Γ Δ T k (fun b => oL Ee (xs b.1 b.2 ++ ys b.1 b.2)) fun b => Δ2 b.1 b.2) :=
  x2_core (b_op op_catR) ha hb fun σ H Q ⟨ok, g, e, q⟩ => ⟨ok, g, e, fun b1 b2 v w H2 kb f ok2 hv hw => by
    obtain ⟨c, kb⟩ := grd_some kb
    obtain ⟨l, vs, ev, rv, zv, pv⟩ := r1 b1 b2 F H2 v ok2.hk hv
    obtain ⟨m, ws, ew, rw', zw, pw⟩ := r2 b1 b2 F H2 w ok2.hk hw
    refine ⟨l, m, vs, ws, ev, ew, rv, rw', by rw [← paired_len pv, ← paired_len pw]; exact c, fun n nn => ?_⟩
    obtain ⟨o, g'⟩ := ok2.newL nn (by rw [List.length_append]; exact c) (paired_app pv pw)
    exact q (b1, b2) _ _ _ kb (f.trans g'.st) (fun a ha => by rw [List.mem_singleton.mp ha]; exact f.back nn) o⟩
end
/-! ### xs.append(e) -/
section
variable {o e : Expr} {apos cpos : Pos} {β1 β2 α : Type} {T : Option γ} {k1 : β1 → Option γ} {k : β1 × β2 → Option γ} {Δ1 : β1 → Δs} {Δ2 : β1 → β2 → Δs} {Ee : α → Pd} {xs : β1 → β2 → List α} {y : β1 → β2 → α} {G : List Addr} {v : V} {prm : Bool}
theorem x_app (j : Nat) (ho : PE X o (tE W F Γ Δ T k1 (fun _ => pV v) Δ1)) (he : ∀ b1, PE X e (tE W F Γ (Δ1 b1) (k1 b1) (fun b2 => grd ((xs b1 b2).length < sizeLine) (k (b1, b2))) (fun b2 => Ee (y b1 b2)) (Δ2 b1))) {xs0 : β1 → List α} {prm0 : Bool} (hj0 : ∀ b1, (Δ1 b1)[j]? = some ⟨G, v, oL Ee (xs0 b1), prm0⟩)
    (hj : ∀ b1 b2, (Δ2 b1 b2)[j]? = some ⟨G, v, oL Ee (xs b1 b2), prm⟩) (hW : ∀ a ∈ G, a ∈ W)
    (hbase : attributeBase o "append" X.env (eval o X.env) = eval o X.env := by rfl) (hline : (apos.endLine == cpos.line) = true := by rfl) (hs : starEach [e] X.env = (false, eval e X.env) :: starEach [] X.env := by rfl)
    (hfew : ((backTo cpos (starEach [e] X.env)).all (fun x => !x.1) && (backToKw cpos (keywordEach [] X.env)).all (fun x => x.1.isSome) && decide ([e].length + ([] : List Keyword).length + (if ([] : List Keyword).isEmpty then 0 else 1) < 30)) = true := by rfl) :
    PE X (.Call (.Attribute o "append" apos) [e] [] cpos) (tE W F Γ Δ T k (fun _ => pNon) fun b => (Δ2 b.1 b.2).set j ⟨G, v, oL Ee (xs b.1 b.2 ++ [y b.1 b.2]), prm⟩) :=
  (pe_bm PySem.F.plainAttrs_list PySem.F.slot_list_append PySem.F.type_list_append mt_append ho (pa_cons (pe_ex he) pa_nil hs) hbase hfew hline hs).wk fun σ H Q ⟨ok, g, e, q⟩ => ⟨ok, g, e, fun b1 u H1 kb1 f1 ok1 hu => by
    have hu : u = v := hu
    subst hu
    obtain ⟨p0, vs0, _, ev0, hp0, _, _⟩ := ok1.hk.del _ (cell_mem (hj0 b1))
    have ev0 : u = .ref p0 := ev0
    refine ⟨by rw [ev0]; exact .inl ⟨rfl, vs0, .inl (.inl hp0)⟩, b1, ok1, g, kb1, fun b2 w H2 kb2 f2 ok2 hw => ?_⟩
    obtain ⟨c, kb⟩ := grd_some kb2
    obtain ⟨p, vs, eG, ev, hp, z, pr⟩ := ok2.hk.del _ (cell_mem (hj b1 b2))
    have fzm : Fzs H2 (upd H2 p (.lst (vs ++ [w]))) := Fzs.mut hp fun z => z
    have eG : G = [p] := eG
    obtain ⟨ok3, f3⟩ := ok2.turn (H' := upd H2 p (.lst (vs ++ [w]))) (d' := oL Ee (xs b1 b2 ++ [y b1 b2])) (hj b1 b2) (fun a o na e => by
      rw [upd_ne fun z => na (by show a ∈ G; rw [eG, z]; exact List.mem_singleton.mpr rfl)]; exact e)
      ⟨p, vs ++ [w], eG, ev, upd_same, by rw [List.length_append, List.length_singleton]; omega, paired_app (paired_mono (fun x _ => (Ee x).mono fzm) pr) (.cons ((Ee _).mono fzm hw) .nil)⟩
    refine ⟨p, vs, w, ev, rfl, hp, by rw [← paired_len pr]; exact c, q (b1, b2) .non _ kb ((f1.trans f2).trans ⟨f3, fun a o na e => ?_, upd_dom _ _⟩) ok3 rfl⟩
    rw [upd_ne fun z => na (hW a (by rw [eG, z]; exact List.mem_singleton.mpr rfl))]
    exact e⟩
end
/-! ### None, isinstance -/
section
variable {a : Expr} {pos p : Pos} {j : Nat} {β α : Type} {T : Option γ} {k : β → Option γ} {Ee : α → Pd} {x : β → Option α} {Δ1 : β → Δs}
def NotNon {α : Type} (E : α → Pd) : Prop := ∀ x H v, (E x).pr H v → v ≠ .non
theorem nnInt : NotNon pInt := fun _ _ _ h z => by rw [h] at z; cases z
theorem nnStr : NotNon pStr := fun _ _ _ h z => by rw [h] at z; cases z
theorem nnL {α : Type} {E : α → Pd} : NotNon (pL E) := fun _ _ _ ⟨_, _, _, h, _⟩ z => by rw [h] at z; cases z
theorem nnD {α : Type} {E : α → Pd} : NotNon (pD E) := fun _ _ _ ⟨_, _, _, h, _⟩ z => by rw [h] at z; cases z
theorem opt_non {α : Type} {E : α → Pd} (nn : NotNon E) : ∀ {x : Option α} {H : Hp} {v : V}, (pOp E x).pr H v → decide (v = .non) = x.isNone
  | none, _, _, h => by rw [show _ = V.non from h]; rfl
  | some x, _, _, h => decide_eq_false (nn x _ _ h)
theorem x_isN (nn : NotNon Ee) (ha : PE X a (tE W F Γ Δ T k (fun b => pOp Ee (x b)) Δ1)) : PE X (.Compare a [.Is] [.Constant .none j p] pos) (tE W F Γ Δ T k (fun b => pBl (x b).isNone) Δ1) :=
  (pe_cmpR op_isN ha pe_non (nomark _)).wk fun σ H Q ⟨ok, g, e, q⟩ => ⟨ok, g, e, fun b v H1 kb f ok1 hv => ⟨rfl, by rw [opt_non nn hv]; exact q b _ H1 kb f ok1 rfl⟩⟩
theorem x_notN (nn : NotNon Ee) (ha : PE X a (tE W F Γ Δ T k (fun b => pOp Ee (x b)) Δ1)) : PE X (.Compare a [.IsNot] [.Constant .none j p] pos) (tE W F Γ Δ T k (fun b => pBl (!(x b).isNone)) Δ1) :=
  (pe_cmpR op_notN ha pe_non (nomark _)).wk fun σ H Q ⟨ok, g, e, q⟩ => ⟨ok, g, e, fun b v H1 kb f ok1 hv => ⟨rfl, by rw [opt_non nn hv]; exact q b _ H1 kb f ok1 rfl⟩⟩
theorem t_isN (nn : NotNon Ee) (ha : PE X a (tE W F Γ Δ T k (fun b => pOp Ee (x b)) Δ1)) : PT X (.Compare a [.Is] [.Constant .none j p] pos) (tTs W F Γ Δ T k (fun b => (x b).isNone) Δ1) :=
  (pt_cmpR op_isN ha pe_non (nomark _)).wk fun σ H Q ⟨ok, g, e, q⟩ => ⟨ok, g, e, fun b v H1 kb f ok1 hv => ⟨rfl, _, rfl, by rw [opt_non nn hv]; exact q b H1 kb f ok1⟩⟩
theorem t_notN (nn : NotNon Ee) (ha : PE X a (tE W F Γ Δ T k (fun b => pOp Ee (x b)) Δ1)) : PT X (.Compare a [.IsNot] [.Constant .none j p] pos) (tTs W F Γ Δ T k (fun b => !(x b).isNone) Δ1) :=
  (pt_cmpR op_notN ha pe_non (nomark _)).wk fun σ H Q ⟨ok, g, e, q⟩ => ⟨ok, g, e, fun b v H1 kb f ok1 hv => ⟨rfl, _, rfl, by rw [opt_non nn hv]; exact q b H1 kb f ok1⟩⟩
/-- what type a value of a kind has -/
def TyP (Δ : Δs) (p : Pd) (t : String) : Prop := ∀ K F H v, Hk F Δ H → p.pr H v → TyX K H v (.type t)
theorem tyInt {i : Int} : TyP Δ (pInt i) "int" := fun _ _ _ _ _ h => by rw [h]; exact .base (.int _)
theorem tyBl {i : Bool} : TyP Δ (pBl i) "bool" := fun _ _ _ _ _ h => by rw [h]; exact .base (.bl _)
theorem tyStr {i : Str} : TyP Δ (pStr i) "str" := fun _ _ _ _ _ h => by rw [h]; exact .base (.str _)
theorem tyNon : TyP Δ pNon "NoneType" := fun _ _ _ _ _ h => by rw [h]; exact .base .non
theorem tyL {α : Type} {E : α → Pd} {xs : List α} : TyP Δ (pL E xs) "list" := fun _ _ _ _ _ ⟨_, _, _, e, h, _⟩ => by rw [e]; exact .base (.frz h)
theorem tyD {α : Type} {E : α → Pd} {xs : List (Str × α)} : TyP Δ (pD E xs) "dict" := fun _ _ _ _ _ ⟨_, _, _, e, h, _⟩ => by rw [e]; exact .fDict h
theorem tyDI {α : Type} {E : α → Pd} {xs : List (Int × α)} : TyP Δ (pDI E xs) "dict" := fun _ _ _ _ _ ⟨_, _, _, e, h, _⟩ => by rw [e]; exact .fDict h
theorem tyT2 {α β : Type} {A : α → Pd} {B : β → Pd} {x : α × β} : TyP Δ (pT2 A B x) "tuple" := fun _ _ _ _ _ ⟨_, _, _, e, h, _⟩ => by rw [e]; exact .base (.tup h)
theorem tyT3 {α β δ : Type} {A : α → Pd} {B : β → Pd} {C : δ → Pd} {x : α × β × δ} : TyP Δ (pT3 A B C x) "tuple" := fun _ _ _ _ _ ⟨_, _, _, _, e, h, _⟩ => by rw [e]; exact .base (.tup h)
theorem tyTL {α : Type} {E : α → Pd} {xs : List α} : TyP Δ (pTL E xs) "tuple" := fun _ _ _ _ _ ⟨_, _, e, h, _⟩ => by rw [e]; exact .base (.tup h)
theorem tyOL {α : Type} {E : α → Pd} {xs : List α} {G : List Addr} {v : V} {prm : Bool} (j : Nat) (h : Δ[j]? = some ⟨G, v, oL E xs, prm⟩ := by rfl) : TyP Δ (pV v) "list" := fun K F H w hk e => by
  have e : w = v := e
  subst e
  obtain ⟨p, vs, _, ev, hp, z, q⟩ := hk.del _ (cell_mem h)
  have ev : w = .ref p := ev
  rw [ev]
  exact .base (.lst hp)
theorem tyOD {α : Type} {E : α → Pd} {xs : List (Str × α)} {G : List Addr} {v : V} {prm : Bool} (j : Nat) (h : Δ[j]? = some ⟨G, v, oD E xs, prm⟩ := by rfl) : TyP Δ (pV v) "dict" := fun K F H w hk e => by
  have e : w = v := e
  subst e
  obtain ⟨p, vs, _, ev, hp, z, q⟩ := hk.del _ (cell_mem h)
  have ev : w = .ref p := ev
  rw [ev]
  exact .base (.dK hp)
theorem x_isi {E1 : β → Pd} {cls : Str} {cn : String} {p1 p2 : Pos} (t : β → String) (r : β → Bool) (hm : X.mg "isinstance" = none) (hm2 : X.mg cls = none) (ha : PE X a (tE W F Γ Δ T k E1 Δ1)) (ty : ∀ b, TyP (Δ1 b) (E1 b) (t b)) (hr : ∀ b, kitB (t b) cn = some (r b)) (hb : bootBuiltins cls = some (.type cn)) (hg : Gl X "isinstance" := by rfl) (hg2 : Gl X cls := by rfl)
    (hn : cls ≠ "__name__" := by decide) (hdb : (cls == ("__debug__" : Str)) = false := by decide) (hs : starEach [a, .Name cls p2] X.env = (false, eval a X.env) :: starEach [.Name cls p2] X.env := by rfl) (hs2 : starEach [.Name cls p2] X.env = (false, eval (.Name cls p2) X.env) :: starEach [] X.env := by rfl) (hpl : (backTo pos (starEach [.Name cls p2] X.env)).any (·.1) = false := by rfl) :
    PE X (.Call (.Name "isinstance" p1) [a, .Name cls p2] [] pos) (tE W F Γ Δ T k (fun b => pBl (r b)) Δ1) :=
  (b_callB call_isi hg hm boot_isinstance (by decide) (by decide) hs hs2 hpl _ _ ha (pe_bltn (v := .ty cn) hg2 hm2 hb rfl hn hdb)).wk fun σ H Q ⟨ok, g, e, q⟩ => ⟨ok, g, e, fun b v H1 kb f ok1 hv => ⟨v, .ty cn, .type (t b), .type cn, r b, rfl, .ty cn, ty b X.K F H1 v ok1.hk hv, kit_ty (hr b), q b _ H1 kb f ok1 rfl⟩⟩
end
end
end L3
end
section
set_option Elab.async false
set_option linter.all false
set_option maxRecDepth 100000
set_option maxHeartbeats 8000000
namespace L3
open PySem PySem.Spec PyProof.Rows L2
/-! ### set(xs), a list of ints: the set with its order (what sorted wants) -/
abbrev eSet (w : World) : Obj := { cls := .type "set", dict := none, data := .set #[] 0 (.fresh 0 0 (!w.params.followText "set-order")) }
section
variable {P : Program} {w : World} {A : Around} {E : Value → Shared → Prop} {s : Shared}
theorem set_of_ints {l : Addr} {items : Array Value} (ns : List Int) {Q : Value → Shared → Prop} (hh : A.handled = none) (hl : s.heap.IsList l items) (hit : IntsAre items.toList ns) (hb : ns.length + 1 < scanBound)
    (fin : ∀ (h' : Heap) (tk c : Nat), SetR w h' s.heap.objs.size (fun j => decide (j ∈ ns)) c → c ≤ ns.length → (∀ b o, s.heap.get? b = some o → h'.get? b = some o) → Q (.ref s.heap.objs.size) { s with heap := h', toks := tk }) :
    wpAny (model P w) A (call (.type "set") [.ref l]) Q E s := by
  have size : items.size = ns.length := by have q := IntsAre.length hit; rw [Array.length_toList] at q; exact q
  have cs := PySem.F.called_set
  obtain ⟨c, tl, mro⟩ := cs.mro
  have m1 := cs.made
  have m2 := cs.sub
  refine wpAny_call (codeAny_of_tree (show wpAny _ _ (callAny (.type "set") _) _ _ _ from wpAny_pure ⟨Code.quiet_builtin _ (by decide +kernel), codeAny_builtin PySem.F.entry_type_call ?_⟩))
  rw [Around.under_plain (weight_type_call_type "set" [.ref l] []) rfl]
  have m3 := cs.notType
  have m4 := cs.canCreate
  have m5 := PySem.F.typeCall_set_1 (.ref l)
  repeat (any_goals (first | assumption | wp_step))
  refine codeAny_mono (code_set_led1 (.ref l) (E := E) (Q₁ := fun obj s₁ => obj = .ref s.heap.objs.size ∧ s₁ = { s with heap := s.heap.push (eSet w) }) ⟨rfl, rfl⟩) fun r s₁ hr => ?_
  cases r with
  | error e => exact hr
  | ok fl =>
    cases fl with
    | ret obj =>
      obtain ⟨rfl, rfl⟩ := hr
      have at1 : (s.heap.push (eSet w)).get? s.heap.objs.size = some (eSet w) := Heap.get?_push_size _ rfl
      have ty1 : Shared.TypeIs { s with heap := s.heap.push (eSet w) } (.ref s.heap.objs.size) "set" := ⟨_, at1, rfl⟩
      have m6 := cs.init.lookup
      have m7 := cs.init.bind (.ref s.heap.objs.size)
      repeat (any_goals (first | assumption | wp_step))
      refine codeAny_mono (codeAny_call_builtin (R := wants (fun r s₂ => r = .none ∧ ∃ h' tk c, s₂ = { s with heap := h', toks := tk } ∧ SetR w h' s.heap.objs.size (fun j => decide (j ∈ ns)) c ∧ c ≤ ns.length ∧ (∀ b o, s.heap.get? b = some o → h'.get? b = some o)) E) cs.init.plain PySem.F.entry_set_init (check_set_init_1 ty1 ?_)) fun r₂ s₂ hr₂ => ?_
      · obtain ⟨⟨oc, od, odt, osl⟩, ho, hc, nl, hd⟩ := hl
        simp only at hc hd
        subst hc hd
        have at2 : (s.heap.push (eSet w)).get? l = some { cls := .type "list", dict := od, data := .seq items nl, slots := osl } := Heap.get?_push_of_some _ ho
        have f1 := PySem.F.sub_list_set
        have f2 := PySem.F.sub_list_frozenset
        have f3 : (Value.type "list" == Value.type "dict") = false := by decide
        have il : (s.heap.push (eSet w)).IsList l items := ⟨_, at2, rfl, nl, rfl⟩
        unfold Builtin.«set.__init__» noKeywords Builtin.Frozenset.updateFrom
        generalize hPI : pyIter = PI
        wp_walk
        subst hPI
        refine wpAny_pyIter_list il (wpAny_bind (wpAny_runValue ?_))
        have lt : l < s.heap.objs.size := Heap.lt_size ho
        have h3 : A.in1.in1.in1.handled = none := by simp [hh]
        have sz : (s.heap.push (eSet w)).objs.size = s.heap.objs.size + 1 := Heap.size_push ..
        have ne1 : l ≠ (s.heap.push (eSet w)).objs.size := by rw [sz]; exact Nat.ne_of_lt (Nat.lt_succ_of_lt lt)
        have nf : s.heap.objs.size ∉ [(s.heap.push (eSet w)).objs.size, l] := by
          rw [sz]
          intro hm
          rcases List.mem_cons.mp hm with e | hm
          · exact absurd e (Nat.ne_of_lt (Nat.lt_succ_self _))
          · exact absurd (List.mem_singleton.mp hm) (Nat.ne_of_gt lt)
        have val : ∀ (i : Nat) (v : Value), items[i]? = some v → ∃ k t, ns[i]? = some k ∧ v = .int k t := fun i v hv => by
          have hi : i < ns.length := by rw [← size]; exact (Array.getElem?_eq_some_iff.mp hv).1
          obtain ⟨t, e⟩ := IntsAre.int_at hit i v (by rw [Array.getElem?_toList]; exact hv)
          refine ⟨ns[i], t, List.getElem?_eq_getElem hi, e.trans ?_⟩
          rw [List.getD_eq_getElem?_getD, List.getElem?_eq_getElem hi]; rfl
        refine set_update_ints ((Walks.list h3 _ l ne1 items).toS) s.heap.objs.size nf ns size hb val (items.size - 0) 0 _ (by omega) (Nat.zero_le _) ⟨⟨_, Heap.get?_push_size _ rfl, rfl, rfl⟩, il.push _⟩ ⟨0, Nat.le_refl 0, setR_new_at (Heap.get?_push_of_some _ at1)⟩ ?_
        intro s' c' mv hc' hS'
        obtain ⟨h', g2, d', tk', os'⟩ := s'
        have eg : g2 = s.gens := mv.gens
        have ed : d' = s.drawn := mv.drawn
        have eo : os' = s.os := mv.os
        subst eg ed eo
        show wpAny _ _ _ _ _ _
        refine wpAny_pure (show wpAny _ _ (ret Value.none) _ _ _ from wpAny_pure ⟨rfl, h', tk', c', rfl, hS', by rw [size] at hc'; exact hc', fun b o e => ?_⟩)
        have lb : b < s.heap.objs.size := Heap.lt_size e
        refine mv.heap b o (fun hm => ?_) (Heap.get?_push_of_some _ (Heap.get?_push_of_some _ e))
        rcases List.mem_cons.mp hm with e | hm
        · exact absurd e (Nat.ne_of_lt lb)
        · exact absurd (List.mem_singleton.mp hm) (by rw [sz]; exact Nat.ne_of_lt (Nat.lt_succ_of_lt lb))
      · cases r₂ with
        | error e => exact hr₂
        | ok f2 =>
          cases f2 with
          | ret r =>
            obtain ⟨rfl, h', tk, c', rfl, hS', hc', hk'⟩ := hr₂
            repeat (any_goals (first | assumption | wp_step))
            exact fin _ _ _ hS' hc' hk'
          | _ => exact hr₂.elim
    | _ => exact hr.elim
end
def rSetOf (w : World) : List V → Hp → VK → Prop := fun vs H Q => ∃ (a : Addr) (ns : List Int), vs = [V.ref a] ∧ Rd H a (.lst (ns.map V.int)) ∧ ns.length + 1 < scanBound ∧
  ∀ (p : Addr) (c : Nat), H p = none → c ≤ ns.length → Q (.ref p) (upd H p (SetO w p (fun j => decide (j ∈ ns)) c))
section
variable {X : Cx}
theorem cr_setOf (hc : X.calm = true) : CallR X (.type "set") (rSetOf X.w) := fun pins s σ H vs us Q I r ⟨a, ns, e, hr, hb, q⟩ => by
  subst e
  rw [Vals.ref1 r]
  obtain ⟨its, rv, hl, hz⟩ := I.list (.inl hr)
  refine set_of_ints ns (I.ok.hd hc) hl.isList rv.ints hb fun h' tk c hS hc' kp => ?_
  have hp : H s.heap.objs.size = none := I.hok.fresh (Nat.le_refl _)
  exact ⟨.ref _, upd H s.heap.objs.size (SetO X.w s.heap.objs.size (fun j => decide (j ∈ ns)) c), I.laid (t' := tk) kp (Nat.le_refl _) (setO_new hS), rfl, q _ c hp hc'⟩
variable {W : List Addr} {F : Fm} {Γ : Gm} {Δ : Δs} {γ : Type}
/-- a set of ints of one's own; locked it says nothing -/
def pTrue : Pd := ⟨fun _ _ => True, fun _ h => h⟩
def oSet (w : World) (xs : List Int) : Od where
  pr G H v := ∃ p n, G = [p] ∧ v = .ref p ∧ H p = some (SetO w p (fun j => decide (j ∈ xs)) n) ∧ n ≤ xs.length
  pd := pTrue
  frame := fun ⟨p, n, eg, ev, h, z⟩ k _ => ⟨p, n, eg, ev, k p (by rw [eg]; exact List.mem_singleton.mpr rfl) _ h, z⟩
  cells := fun ⟨p, n, eg, ev, h, z⟩ => one_cells eg h trivial
  lockd := fun _ _ _ => trivial
def sideL (xs : List Int) : List Int := srt xs.eraseDups
def u64 (n : Nat) : Bool := decide (n < 64)
section
variable {a : Expr} {p pos : Pos} {β : Type} {T : Option γ} {E1 : β → Pd} {xs : β → List Int} {Δ1 : β → Δs}
theorem x_set {k : β → Option γ} (hm : X.mg "set" = none) (ha : PE X a (tE W F Γ Δ T (fun b => grd ((xs b).length + 1 < scanBound) (k b)) E1 Δ1)) (rd : ∀ b, RdL (Δ1 b) (E1 b) pInt (xs b)) (hg : Gl X "set" := by rfl) (hs : starEach [a] X.env = (false, eval a X.env) :: starEach [] X.env := by rfl) (hc : X.calm = true := by rfl) :
    PE X (.Call (.Name "set" p) [a] [] pos) (tO W F Γ Δ T k (fun b => oSet X.w (xs b)) Δ1) :=
  (u_callTy (cr_setOf hc) hg hm (by decide +kernel) (by decide) (by decide) hs _ ha).wk fun σ H Q ⟨ok, g, e, q⟩ => ⟨ok, g, e, fun b v H' kb f ok' hv => by
    obtain ⟨c, kb⟩ := grd_some kb
    obtain ⟨l, vs, ev, rv, z, pr⟩ := rd b F H' v ok'.hk hv
    have e := paired_ints pr
    subst e
    rw [ev]
    refine ⟨l, xs b, rfl, rv, c, fun n m nn hm => ?_⟩
    have g' : Gr H' (upd H' n (SetO X.w n (fun j => decide (j ∈ xs b)) m)) := Gr.new nn
    have ok2 := ok'.gr g'
    exact q b _ [n] _ kb (f.trans g'.st) (fun a ha => by rw [List.mem_singleton.mp ha]; exact f.back nn) ⟨ok'.hk.add g' (List.nodup_cons.mpr ⟨List.not_mem_nil, List.nodup_nil⟩) (fun a ha => by rw [List.mem_singleton.mp ha]; exact nn) ⟨n, m, rfl, rfl, upd_same, hm⟩, ok2.len, ok2.gam⟩⟩
end
end
theorem dups_nodup : ∀ xs : List Int, xs.eraseDups.Nodup := fun xs => by
  induction h : xs.length using Nat.strongRecOn generalizing xs with
  | _ n ih =>
    cases xs with
    | nil => simp
    | cons x xs =>
      rw [List.eraseDups_cons]
      refine List.nodup_cons.mpr ⟨fun hm => ?_, ih _ ?_ _ rfl⟩
      · have := List.mem_eraseDups.mp hm
        simp at this
      · have := List.length_filter_le (fun b => !b == x) xs
        simp only [List.length_cons] at h
        omega
theorem sideL_lt (xs : List Int) : (sideL xs).Pairwise (· < ·) := by
  have h1 := srt_le xs.eraseDups
  have h2 : (sideL xs).Nodup := (srt_perm _).nodup_iff.mpr (dups_nodup xs)
  exact (List.pairwise_and_iff.mpr ⟨h1, h2⟩).imp fun ⟨a, b⟩ => by omega
theorem sideL_mem (xs : List Int) (k : Int) : k ∈ sideL xs ↔ k ∈ xs := by
  unfold sideL
  rw [(srt_perm _).mem_iff, List.mem_eraseDups]
theorem lt_uniq : ∀ {xs ys : List Int}, xs.Pairwise (· < ·) → ys.Pairwise (· < ·) → (∀ k, k ∈ xs ↔ k ∈ ys) → xs = ys := fun {xs ys} h1 h2 h => by
  have n1 : xs.Nodup := h1.imp fun h => by omega
  have n2 : ys.Nodup := h2.imp fun h => by omega
  exact sorted_eq ((List.perm_ext_iff_of_nodup n1 n2).mpr h) (h1.imp fun h => by omega) (h2.imp fun h => by omega)
end L3
end
section
set_option Elab.async false
set_option linter.all false
set_option maxRecDepth 100000
set_option maxHeartbeats 8000000
namespace L3
open PySem PySem.Spec PyProof.Rows L2
section
variable {P : Program} {w : World} {A : Around} {E : Value → Shared → Prop} {s : Shared}
/-- sorted(s), a set of ints, however many -/
theorem sorted_of_set {a : Addr} {S : Int → Bool} {n : Nat} {Q : Value → Shared → Prop} (R : SetR w s.heap a S n) (hh : A.handled = none)
    (hQ : ∀ s' p (out : List Value) (c : Nat) (ns : List Int), (∀ b o, s.heap.get? b = some o → s'.heap.get? b = some o) → s'.gens = s.gens → s'.os = s.os → s.heap.objs.size ≤ p → s'.heap.get? p = some (seqObj "list" out.toArray c) → IntsAre out ns → ns.Pairwise (· < ·) → (∀ k, k ∈ ns ↔ S k = true) → ns.length ≤ sizeLine → Q (.ref p) s') :
    wpAny (model P w) A (call (.builtin "sorted") [.ref a]) Q E s := by
  obtain ⟨o, es, ep, t, ho, hex, hd, good, nd, mem, small, fits, hn, ris, led⟩ := R
  refine Calls.call_function_entry kind_sorted plain_sorted entry_sorted (args_sorted1 _) ?_
  unfold Builtin.«sorted»
  refine wpAny_bind (m := checkCount "sorted" 1 1 _) (wpAny_pure (wpAny_bind (collect_set (A := A.in1) hh ⟨o, ho, hex.1, hd⟩ fits small ris led fun s1 vs k1 hz g1 o1 pm => ?_)))
  have len : vs.length < scanBound := by rw [pm.length_eq, List.length_map, Array.length_toList]; exact small
  have big : vs.length ≤ sizeLine := Nat.le_of_lt (Nat.lt_of_lt_of_le len (by decide))
  have shape : ∀ v ∈ vs, ∃ i t, v = Value.int i t := fun v hv => by
    obtain ⟨e, he, q⟩ := List.mem_map.mp (pm.mem_iff.mp hv)
    obtain ⟨k, tk, h1, _⟩ := good e he
    exact ⟨k, tk, q.symm.trans h1⟩
  have hI : IntsAre vs (vs.map SrtO.iv) := SrtO.ints_iv shape
  have keys : (vs.map SrtO.iv).Perm (es.toList.map keyOf) := by
    have q := pm.map SrtO.iv
    rw [List.map_map] at q
    refine q.trans (List.Perm.of_eq (List.map_congr_left fun e he => ?_))
    obtain ⟨k, tk, h1, h2⟩ := good e he
    show SrtO.iv e.2 = keyOf e
    rw [key_vInt, h1]
    rfl
  refine wpAny_bind (wpAny_newList ?_ big)
  have at1 : (s1.heap.push (seqObj "list" vs.toArray 0)).get? s1.heap.objs.size = some (seqObj "list" vs.toArray 0) := Heap.get?_push_size _ rfl
  refine wpAny_bind (wpAny_holding (wpAny_call_entry slot_list_sort ⟨_, at1, rfl⟩ entry_list_sort (SrtO.list_sort_ord SrtO.swo_int at1 big (fun h2 => SrtO.ints_sortable hI h2) fun out hs hb => ⟨_, rfl, ?_⟩) (args_list_sort _)))
  obtain ⟨i1, i2, i3⟩ := SrtO.ints_out hI hs hb
  have pn := i2.trans keys
  obtain ⟨c, hc⟩ := sortedHeap_at (vs := vs) (out := out.toArray) at1
  refine wpAny_pure ⟨_, rfl, hQ _ s1.heap.objs.size out c (out.map SrtO.iv) (fun b u e => ?_) g1 o1 hz hc i1 ?_ (fun k => by rw [pn.mem_iff, ← mem k]) ?_⟩
  · have q := k1 b u e
    have lt := Heap.lt_size q
    show (sortedHeap (s1.heap.push (seqObj "list" vs.toArray 0)) s1.heap.objs.size vs out.toArray).get? b = some u
    rw [sortedHeap_old (Nat.ne_of_lt lt) (by rw [size_push']; exact Nat.lt_succ_of_lt lt)]
    exact Heap.get?_push_of_some _ q
  · have n2 : (out.map SrtO.iv).Nodup := pn.nodup_iff.mpr nd
    exact (List.pairwise_and_iff.mpr ⟨i3, n2⟩).imp fun ⟨x, y⟩ => by omega
  · rw [pn.length_eq, List.length_map, Array.length_toList]
    exact Nat.le_of_lt (Nat.lt_of_lt_of_le small (by decide))
end
def rSortSet (w : World) : List V → Hp → VK → Prop := fun vs H Q => ∃ (a : Addr) (S : Int → Bool) (n : Nat), vs = [V.ref a] ∧ H a = some (SetO w a S n) ∧
  ∀ (ns : List Int) (p : Addr), ns.Pairwise (· < ·) → (∀ k : Int, k ∈ ns ↔ S k = true) → ns.length ≤ sizeLine → H p = none → Q (.ref p) (upd H p (.lst (ns.map V.int)))
section
variable {X : Cx} {W : List Addr} {F : Fm} {Γ : Gm} {Δ : Δs} {γ : Type}
theorem cr_sortSet (hc : X.calm = true) : CallR X (.builtin "sorted") (rSortSet X.w) := fun pins s σ H vs us Q I r ⟨a, S, n, e, ha, q⟩ => by
  subst e
  rw [Vals.ref1 r]
  refine sorted_of_set (setO_get I ha) (I.ok.hd hc) fun s' p out c ns kp hg ho hp hat hi hs hm hl => ?_
  have hn : H p = none := I.hok.fresh hp
  have z : (ns.map V.int).length ≤ sizeLine := by rw [List.length_map]; exact hl
  have J : Inv X pins σ (upd H p (.lst (ns.map V.int))) { s with heap := s'.heap, gens := s'.gens, drawn := s'.drawn, toks := s'.toks } :=
    I.call (ch := []) (Un.laid kp hp hn) (I.hok.laid kp hp ⟨z, out, c, vals_of_ints hi, hat⟩) (by rw [hg]; exact I.bare) (fun _ z => nomatch z)
  have e : s' = { s with heap := s'.heap, gens := s'.gens, drawn := s'.drawn, toks := s'.toks } := by cases s'; cases s; cases ho; rfl
  rw [e]
  exact ⟨.ref p, _, J, rfl, q ns p hs hm hl hn⟩
section
variable {a : Expr} {p pos : Pos} {β : Type} {T : Option γ} {xs : β → List Int} {Δ1 : β → Δs} {k : β → Option γ}
/-- sorted(set(..)) -/
theorem x_sortedSet (hm : X.mg "sorted" = none) (ha : PE X a (tO W F Γ Δ T k (fun b => oSet X.w (xs b)) Δ1)) (hg : Gl X "sorted" := by rfl) (hs : starEach [a] X.env = (false, eval a X.env) :: starEach [] X.env := by rfl) (hc : X.calm = true := by rfl) :
    PE X (.Call (.Name "sorted" p) [a] [] pos) (tO W F Γ Δ T k (fun b => oL pInt (sideL (xs b))) Δ1) :=
  (u_callB (cr_sortSet hc) hg hm (by decide +kernel) (by decide) (by decide) hs _ ha).wk fun σ H Q ⟨ok, g, e, q⟩ => ⟨ok, g, e, fun b v G H' kb f nw ok' => by
    obtain ⟨l, n, eG, ev, hl, _⟩ := ok'.hk.del _ List.mem_cons_self
    have ev : v = .ref l := ev
    rw [ev]
    refine ⟨l, _, n, rfl, hl, fun ns m h1 h2 h3 nm => ?_⟩
    have e : ns = sideL (xs b) := lt_uniq h1 (sideL_lt _) fun k => by rw [h2 k, sideL_mem]; exact decide_eq_true_iff
    subst e
    obtain ⟨o, g'⟩ := (Ok.less ok' (.cons _ (List.Sublist.refl _))).newL nm h3 (ints_paired (H := H') (sideL (xs b)))
    exact q b _ _ _ kb (f.trans g'.st) (fun a ha => by rw [List.mem_singleton.mp ha]; exact f.back nm) o⟩
/-- len(set(..)) is not here: sets are asked by in -/
theorem v_inSet {β1 β2 : Type} {Δ2 : β1 → β2 → Δs} {i : β1 → Int} {v0 : V} {G : List Addr} {xs : β1 → β2 → List Int} {prm : Bool} (j : Nat) (hj : ∀ b1 b2, (Δ2 b1 b2)[j]? = some ⟨G, v0, oSet X.w (xs b1 b2), prm⟩) :
    ∀ b1 b2 σ v w H Q, Ok F Γ (Δ2 b1 b2) σ H → (pInt (i b1)).pr H v → (pV v0).pr H w → (∀ u, (pBl (decide (i b1 ∈ xs b1 b2))).pr H u → Q u H) → rSIn X.w v w H Q :=
  fun b1 b2 σ v w H Q ok hv hw q => by
    obtain ⟨l, n, eG, ev, hl, _⟩ := ok.hk.del _ (cell_mem (hj b1 b2))
    have hw : w = v0 := hw
    exact ⟨i b1, l, _, n, hv, hw.trans ev, hl, q _ rfl⟩
end
end
end L3
end
section
set_option Elab.async false
set_option linter.all false
set_option maxRecDepth 100000
set_option maxHeartbeats 4000000
namespace L3
open PySem PySem.Spec PyProof.Rows L2
section
variable {X : Cx} {W : List Addr} {F : Fm} {Γ : Gm} {Δ : Δs} {γ : Type}
/-! ### a cell of one's own is shown to a def that only reads it -/
def FlatE {β : Type} (E : β → Pd) : Prop := ∀ b H H' v, (E b).pr H v → (E b).pr H' v
theorem feInt {β : Type} {i : β → Int} : FlatE fun b => pInt (i b) := fun _ _ _ _ h => h
theorem feBl {β : Type} {i : β → Bool} : FlatE fun b => pBl (i b) := fun _ _ _ _ h => h
theorem feStr {β : Type} {i : β → Str} : FlatE fun b => pStr (i b) := fun _ _ _ _ h => h
theorem feNon {β : Type} : FlatE fun _ : β => pNon := fun _ _ _ _ h => h
theorem lk_one {p : Addr} {u : HO} {Φ : Hp → Prop} {H : Hp} {G : List Addr} (eG : G = [p]) (hp : H p = some u) (h : tLk G Φ H) : Mut (some u) ∧ ∀ o, Φ (upd H p (.frz o u)) := by
  subst eG
  obtain ⟨u', e, m, k⟩ := h
  rw [hp] at e
  cases e
  exact ⟨m, k⟩
theorem gr_unlock {H H' : Hp} {p : Addr} {o : Obj} {u : HO} (hp : H p = some u) (g : Gr (upd H p (.frz o u)) H') : Gr H (upd H' p u) := fun a x e => by
  by_cases h : a = p
  · subst h
    rw [hp] at e
    rw [upd_same, ← e]
  · rw [upd_ne h]
    exact g a x (by rw [upd_ne h]; exact e)
theorem x_lock {e : Expr} {β : Type} {T : Option γ} {k : β → Option γ} {E : β → Pd} {G : List Addr} {v : V} {d : Od} {prm : Bool} (j i : Nat) (one : ∀ H, d.pr G H v → ∃ p u, G = [p] ∧ H p = some u) (fe : FlatE E)
    (he : PE X e (tE [] F (Γ.set i (some d.pd)) (Δ.eraseIdx j) T k E fun _ => Δ.eraseIdx j)) (hj : Δ[j]? = some ⟨G, v, d, prm⟩ := by rfl) (hi : Γ[i]? = some (some (pV v)) := by rfl) : PE X e (tE W F Γ Δ T k E fun _ => Δ) :=
  (pe_lock he).wk fun σ H Q ⟨ok, g, e, q⟩ => by
    obtain ⟨p, u, eG, hp⟩ := one H (ok.hk.del _ (cell_mem hj))
    obtain ⟨mu, lk⟩ := lk_one eG hp (ok.frzS hj hi (Φ := fun H' => Ok F (Γ.set i (some d.pd)) (Δ.eraseIdx j) σ H') fun H' _ h => h)
    refine ⟨p, u, hp, mu, fun od => ⟨lk od, g, e, fun b w H' kb st ok2 hw => ?_⟩⟩
    have g2 := gr_unlock hp st.gr
    exact ⟨st.gr p _ upd_same, q b w _ kb g2.st (ok.gr g2) (fe b _ _ w hw)⟩
theorem t_lock {e : Expr} {β : Type} {T : Option γ} {k : β → Option γ} {c : β → Bool} {G : List Addr} {v : V} {d : Od} {prm : Bool} (j i : Nat) (one : ∀ H, d.pr G H v → ∃ p u, G = [p] ∧ H p = some u)
    (he : PE X e (tE [] F (Γ.set i (some d.pd)) (Δ.eraseIdx j) T k (fun b => pBl (c b)) fun _ => Δ.eraseIdx j)) (hj : Δ[j]? = some ⟨G, v, d, prm⟩ := by rfl) (hi : Γ[i]? = some (some (pV v)) := by rfl) (hw : ∀ whole, isTrue e X.env whole = (do let v ← whole; standAt e.pos; holding [v] (truthy v)) := by intro _; rfl) : PT X e (tTs W F Γ Δ T k c fun _ => Δ) :=
  t_val (x_lock j i one feBl he hj hi) hw
theorem oneL {α : Type} {E : α → Pd} {xs : List α} {G : List Addr} {v : V} : ∀ H, (oL E xs).pr G H v → ∃ p u, G = [p] ∧ H p = some u := fun _ ⟨p, vs, eg, _, h, _⟩ => ⟨p, _, eg, h⟩
theorem oneD {α : Type} {E : α → Pd} {xs : List (Str × α)} {G : List Addr} {v : V} : ∀ H, (oD E xs).pr G H v → ∃ p u, G = [p] ∧ H p = some u := fun _ ⟨p, vs, eg, _, h, _⟩ => ⟨p, _, eg, h⟩
theorem oneDI {α : Type} {E : α → Pd} {xs : List (Int × α)} {G : List Addr} {v : V} : ∀ H, (oDI E xs).pr G H v → ∃ p u, G = [p] ∧ H p = some u := fun _ ⟨p, vs, eg, _, h, _⟩ => ⟨p, _, eg, h⟩
end
end L3
end
section
set_option Elab.async false
set_option linter.all false
set_option maxRecDepth 100000
set_option maxHeartbeats 4000000
namespace L3
open PySem PySem.Spec PyProof.Rows L2
section
variable {X : Cx} {W : List Addr} {F : Fm} {Γ : Gm} {Δ : Δs} {γ : Type}
/-! ### a whole group of cells is locked for an expression -/
def tLkE : List Addr → TE → TE
  | [], t => t
  | _ :: G, t => tLockE (tLkE G t)
theorem pe_lkE {e : Expr} {t : TE} (h : PE X e t) : ∀ G : List Addr, PE X e (tLkE G t)
  | [] => h
  | _ :: G => pe_lock (pe_lkE h G)
theorem tLkE_of {t : TE} {σ : SS} (mono : ∀ H (Q Q' : VK), (∀ v H', Q v H' → Q' v H') → t σ H Q → t σ H Q') : ∀ {G : List Addr} {H : Hp} {Q : VK}, G.Nodup → (∀ a ∈ G, ∃ u, H a = some u ∧ Mut (some u)) →
    (∀ H1, (∀ a, a ∉ G → H1 a = H a) → (∀ a ∈ G, ∀ u, H a = some u → ∃ o, H1 a = some (.frz o u)) → t σ H1 fun v H' => (∀ a ∈ G, H' a = H1 a) ∧ ∀ H2 : Hp, (∀ a, a ∉ G → H2 a = H' a) → (∀ a ∈ G, H2 a = H a) → Q v H2) → tLkE G t σ H Q
  | [], H, Q, _, _, k => mono H _ _ (fun v H' h => h.2 H' (fun _ _ => rfl) fun _ h => absurd h List.not_mem_nil) (k H (fun _ _ => rfl) fun _ h => absurd h List.not_mem_nil)
  | d :: G, H, Q, nd, hm, k => by
    obtain ⟨nd1, nd2⟩ := List.nodup_cons.mp nd
    obtain ⟨u, hu, mu⟩ := hm d List.mem_cons_self
    refine ⟨d, u, hu, mu, fun od => tLkE_of mono nd2 (fun a ha => ?_) fun H1 h1 h2 => ?_⟩
    · rw [upd_ne (fun e => nd1 (by rw [← e]; exact ha))]
      exact hm a (List.mem_cons_of_mem _ ha)
    · have k1 : ∀ a, a ∉ d :: G → H1 a = H a := fun a ha => by
        rw [h1 a (fun z => ha (List.mem_cons_of_mem _ z)), upd_ne (fun e => ha (by rw [e]; exact List.mem_cons_self))]
      have k2 : ∀ a ∈ d :: G, ∀ w, H a = some w → ∃ o, H1 a = some (.frz o w) := fun a ha w hw => by
        by_cases e : a = d
        · subst e
          rw [hu] at hw
          cases hw
          exact ⟨od, by rw [h1 a nd1, upd_same]⟩
        · rcases List.mem_cons.mp ha with z | z
          · exact absurd z e
          · exact h2 a z w (by rw [upd_ne e]; exact hw)
      refine mono _ _ _ (fun v H' q => ⟨fun a ha => q.1 a (List.mem_cons_of_mem _ ha), fun H2 r1 r2 => ⟨by rw [r1 d nd1, q.1 d List.mem_cons_self, h1 d nd1, upd_same], q.2 _ (fun a ha => ?_) (fun a ha => ?_)⟩⟩) (k H1 k1 k2)
      · rw [upd_ne (fun e => ha (by rw [e]; exact List.mem_cons_self)), r1 a fun z => ha (List.mem_cons_of_mem _ z)]
      · by_cases e : a = d
        · subst e; rw [upd_same, hu]
        · rcases List.mem_cons.mp ha with z | z
          · exact absurd z e
          · rw [upd_ne e, r2 a z, upd_ne e]
/-- the cell at j is locked for the expression e, which makes nothing of it -/
theorem x_lockG {e : Expr} {β : Type} {T : Option γ} {k : β → Option γ} {E : β → Pd} {G : List Addr} {v : V} {d : Od} {prm : Bool} (j i : Nat) (fe : FlatE E)
    (he : PE X e (tE [] F (Γ.set i (some d.pd)) (Δ.eraseIdx j) T k E fun _ => Δ.eraseIdx j)) (hj : Δ[j]? = some ⟨G, v, d, prm⟩ := by rfl) (hi : Γ[i]? = some (some (pV v)) := by rfl) : PE X e (tE W F Γ Δ T k E fun _ => Δ) :=
  (pe_lkE he G).wk fun σ H Q ⟨ok, g, e, q⟩ => by
    have hc := ok.hk.del _ (cell_mem hj)
    have nd : G.Nodup := by
      have h := ok.hk.nod.sublist (flat_sub (List.singleton_sublist.mpr (cell_mem hj)))
      unfold cellsOf at h
      rw [List.flatMap_cons] at h
      exact (List.nodup_append.mp h).1
    refine tLkE_of (fun H Q Q' h ⟨a, g, b, c⟩ => ⟨a, g, b, fun b v H' k s o p => h v H' (c b v H' k s o p)⟩) nd (d.cells hc) fun H1 h1 h2 => ?_
    have fz : Fzs H H1 := lk_fzs (d.cells hc) h1
    have ok1 : Ok F (Γ.set i (some d.pd)) (Δ.eraseIdx j) σ H1 := by
      have dom : ∀ a o, H a = some o → ∃ u, H1 a = some u := fun a o e => by
        by_cases ha : a ∈ G
        · obtain ⟨q, hq⟩ := h2 a ha o e
          exact ⟨_, hq⟩
        · exact ⟨o, by rw [h1 a ha]; exact e⟩
      refine ⟨⟨fun a o e m => ?_, fun x hx => ?_, ok.hk.nod.sublist (flat_sub (List.eraseIdx_sublist _ _)), fun x hx => ok.hk.own x ((List.eraseIdx_sublist _ _).subset hx), fun a ha => ?_⟩, by rw [List.length_set]; exact ok.len, fun m p e => ?_⟩
      · rw [h1 a fun ha => ?_]
        · exact ok.hk.base a o e m
        · rcases ok.hk.own _ (cell_mem hj) a ha with z | ⟨_, z⟩
          · rw [e] at z; cases z
          · exact m z
      · obtain ⟨n, ne, hn⟩ := mem_erase hx
        refine x.d.frame (ok.hk.del x (cell_mem hn)) (fun a ha o e => ?_) fz
        rw [h1 a fun hc => cell_apart ok.hk.nod hn hj ne a ha hc]
        exact e
      · obtain ⟨o, e⟩ := ok.hk.mem a ha
        exact dom a o e
      · by_cases h : m = i
        · subst h
          rw [List.getElem?_set_self (List.getElem?_eq_some_iff.mp hi).1] at e
          cases e
          obtain ⟨w, hs, hv⟩ := ok.gam m _ hi
          have hv : w = v := hv
          subst hv
          exact ⟨_, hs, d.lockd hc h1 h2⟩
        · rw [List.getElem?_set_ne (fun z => h z.symm)] at e
          obtain ⟨w, hs, hv⟩ := ok.gam m p e
          exact ⟨w, hs, p.mono fz hv⟩
    refine ⟨ok1, g, e, fun b w H' kb st ok2 hw => ⟨fun a ha => ?_, fun H2 r1 r2 => ?_⟩⟩
    · obtain ⟨u, hu, _⟩ := d.cells hc a ha
      obtain ⟨o, ho⟩ := h2 a ha u hu
      rw [ho]
      exact st.gr a _ ho
    · have g2 : Gr H H2 := fun a o e => by
        by_cases ha : a ∈ G
        · rw [r2 a ha]; exact e
        · rw [r1 a ha]
          exact st.gr a o (by rw [h1 a ha]; exact e)
      exact q b w H2 kb g2.st (ok.gr g2) (fe b _ _ w hw)
/-! ### lists of lists of one's own -/
inductive Own3 {α : Type} (D : α → Od) (H : Hp) : List α → List V → List (List Addr) → Prop
  | nil : Own3 D H [] [] []
  | cons {x : α} {xs : List α} {v : V} {vs : List V} {g : List Addr} {gs : List (List Addr)} : (D x).pr g H v → Own3 D H xs vs gs → Own3 D H (x :: xs) (v :: vs) (g :: gs)
theorem Own3.len {α : Type} {D : α → Od} {H : Hp} : ∀ {xs : List α} {vs : List V} {gs : List (List Addr)}, Own3 D H xs vs gs → xs.length = vs.length
  | _, _, _, .nil => rfl
  | _, _, _, .cons _ t => congrArg (· + 1) t.len
theorem Own3.frame {α : Type} {D : α → Od} {H H' : Hp} (f : Fzs H H') : ∀ {xs : List α} {vs : List V} {gs : List (List Addr)}, Own3 D H xs vs gs → (∀ a ∈ gs.flatten, ∀ o, H a = some o → H' a = some o) → Own3 D H' xs vs gs
  | _, _, _, .nil, _ => .nil
  | _, _, _, .cons r t, k => by
    rw [List.flatten_cons] at k
    exact .cons ((D _).frame r (fun a ha => k a (List.mem_append_left _ ha)) f) (Own3.frame f t fun a ha => k a (List.mem_append_right _ ha))
theorem Own3.cells {α : Type} {D : α → Od} {H : Hp} : ∀ {xs : List α} {vs : List V} {gs : List (List Addr)}, Own3 D H xs vs gs → ∀ a ∈ gs.flatten, ∃ o, H a = some o ∧ Mut (some o)
  | _, _, _, .nil, a, h => by simp at h
  | _, _, _, .cons r t, a, h => by
    rw [List.flatten_cons] at h
    rcases List.mem_append.mp h with h | h
    · exact (D _).cells r a h
    · exact t.cells a h
theorem Own3.lockd {α : Type} {D : α → Od} {H H1 : Hp} {S : List Addr} (h1 : ∀ a, a ∉ S → H1 a = H a) (h2 : ∀ a ∈ S, ∀ u, H a = some u → ∃ o, H1 a = some (.frz o u)) (hm : ∀ a ∈ S, ∃ o, H a = some o ∧ Mut (some o)) : ∀ {xs : List α} {vs : List V} {gs : List (List Addr)}, Own3 D H xs vs gs → (∀ a ∈ gs.flatten, a ∈ S) → Paired (fun x u => (D x).pd.pr H1 u) xs vs
  | _, _, _, .nil, _ => .nil
  | x :: _, v :: _, g :: gs, .cons r t, sub => by
    rw [List.flatten_cons] at sub
    refine .cons ?_ (Own3.lockd h1 h2 hm t fun a ha => sub a (List.mem_append_right _ ha))
    have m1 : ∀ a, a ∉ g → (fun a => if a ∈ g then H1 a else H a : Hp) a = H a := fun a ha => if_neg ha
    have m2 : ∀ a ∈ g, ∀ u, H a = some u → ∃ o, (fun a => if a ∈ g then H1 a else H a : Hp) a = some (.frz o u) := fun a ha u e => by
      obtain ⟨o, ho⟩ := h2 a (sub a (List.mem_append_left _ ha)) u e
      exact ⟨o, (if_pos ha).trans ho⟩
    refine (D x).pd.mono (fun a o p e => ?_) ((D x).lockd r m1 m2)
    by_cases ha : a ∈ g
    · exact (if_pos ha).symm.trans e
    · have e : H a = some o := (if_neg ha).symm.trans e
      by_cases hs : a ∈ S
      · obtain ⟨u, hu, mu⟩ := hm a hs
        rw [e] at hu
        cases hu
        exact absurd p (Mut.npst mu)
      · rw [h1 a hs]; exact e
def oLO {α : Type} (D : α → Od) (xs : List α) : Od where
  pr G H v := ∃ p vs gs, G = p :: gs.flatten ∧ v = .ref p ∧ H p = some (.lst vs) ∧ xs.length ≤ sizeLine ∧ Own3 D H xs vs gs
  pd := pL (fun x => (D x).pd) xs
  frame := fun {G H H' v} h k f => by
    obtain ⟨p, vs, gs, eg, ev, h, z, q⟩ := h
    exact ⟨p, vs, gs, eg, ev, k p (by rw [eg]; exact List.mem_cons_self) _ h, z, q.frame f fun a ha => k a (by rw [eg]; exact List.mem_cons_of_mem _ ha)⟩
  cells := fun ⟨p, vs, gs, eg, ev, h, z, q⟩ a ha => by
    rw [eg] at ha
    rcases List.mem_cons.mp ha with e | ha
    · rw [e]; exact ⟨_, h, trivial⟩
    · exact q.cells a ha
  lockd := fun {G H H1 v} ⟨p, vs, gs, eg, ev, h, z, q⟩ h1 h2 => by
    obtain ⟨o, ho⟩ := h2 p (by rw [eg]; exact List.mem_cons_self) _ h
    have hm : ∀ a ∈ G, ∃ o, H a = some o ∧ Mut (some o) := fun a ha => by
      rw [eg] at ha
      rcases List.mem_cons.mp ha with e | ha
      · rw [e]; exact ⟨_, h, trivial⟩
      · exact q.cells a ha
    exact ⟨p, o, vs, ev, ho, z, q.lockd h1 h2 hm fun a ha => by rw [eg]; exact List.mem_cons_of_mem _ ha⟩
end
end L3
end
section
set_option Elab.async false
set_option linter.all false
set_option maxRecDepth 100000
set_option maxHeartbeats 4000000
namespace L3
open PySem PySem.Spec PyProof.Rows L2
section
variable {X : Cx} {W : List Addr} {F : Fm} {Γ : Gm} {Δ : Δs} {γ : Type}
/-! ### tests while a group is locked -/
def tLockT (t : TT) : TT := fun σ H Q => ∃ d u, H d = some u ∧ Mut (some u) ∧ ∀ od, t σ (upd H d (.frz od u)) fun b H' => H' d = some (.frz od u) ∧ Q b (upd H' d u)
theorem pt_lockT {e : Expr} {t : TT} (h : PT X e t) : PT X e (tLockT t) := ⟨fun pins s σ H Q I ⟨d, u, hd, mu, hw⟩ => by
  obtain ⟨od, I1⟩ := I.lock hd mu
  exact thn (h.run pins s σ _ _ I1 (hw od)) fun b s1 ⟨H1, I2, e2, q⟩ => ⟨_, I2.unlock e2 (I.nofrz hd mu), q⟩⟩
def tLkT : List Addr → TT → TT
  | [], t => t
  | _ :: G, t => tLockT (tLkT G t)
theorem pt_lkT {e : Expr} {t : TT} (h : PT X e t) : ∀ G : List Addr, PT X e (tLkT G t)
  | [] => h
  | _ :: G => pt_lockT (pt_lkT h G)
theorem tLkT_of {t : TT} {σ : SS} (mono : ∀ H (Q Q' : Bool → Hp → Prop), (∀ v H', Q v H' → Q' v H') → t σ H Q → t σ H Q') : ∀ {G : List Addr} {H : Hp} {Q : Bool → Hp → Prop}, G.Nodup → (∀ a ∈ G, ∃ u, H a = some u ∧ Mut (some u)) →
    (∀ H1, (∀ a, a ∉ G → H1 a = H a) → (∀ a ∈ G, ∀ u, H a = some u → ∃ o, H1 a = some (.frz o u)) → t σ H1 fun v H' => (∀ a ∈ G, H' a = H1 a) ∧ ∀ H2 : Hp, (∀ a, a ∉ G → H2 a = H' a) → (∀ a ∈ G, H2 a = H a) → Q v H2) → tLkT G t σ H Q
  | [], H, Q, _, _, k => mono H _ _ (fun v H' h => h.2 H' (fun _ _ => rfl) fun _ h => absurd h List.not_mem_nil) (k H (fun _ _ => rfl) fun _ h => absurd h List.not_mem_nil)
  | d :: G, H, Q, nd, hm, k => by
    obtain ⟨nd1, nd2⟩ := List.nodup_cons.mp nd
    obtain ⟨u, hu, mu⟩ := hm d List.mem_cons_self
    refine ⟨d, u, hu, mu, fun od => tLkT_of mono nd2 (fun a ha => ?_) fun H1 h1 h2 => ?_⟩
    · rw [upd_ne (fun e => nd1 (by rw [← e]; exact ha))]
      exact hm a (List.mem_cons_of_mem _ ha)
    · have k1 : ∀ a, a ∉ d :: G → H1 a = H a := fun a ha => by
        rw [h1 a (fun z => ha (List.mem_cons_of_mem _ z)), upd_ne (fun e => ha (by rw [e]; exact List.mem_cons_self))]
      have k2 : ∀ a ∈ d :: G, ∀ w, H a = some w → ∃ o, H1 a = some (.frz o w) := fun a ha w hw => by
        by_cases e : a = d
        · subst e
          rw [hu] at hw
          cases hw
          exact ⟨od, by rw [h1 a nd1, upd_same]⟩
        · rcases List.mem_cons.mp ha with z | z
          · exact absurd z e
          · exact h2 a z w (by rw [upd_ne e]; exact hw)
      refine mono _ _ _ (fun v H' q => ⟨fun a ha => q.1 a (List.mem_cons_of_mem _ ha), fun H2 r1 r2 => ⟨by rw [r1 d nd1, q.1 d List.mem_cons_self, h1 d nd1, upd_same], q.2 _ (fun a ha => ?_) (fun a ha => ?_)⟩⟩) (k H1 k1 k2)
      · rw [upd_ne (fun e => ha (by rw [e]; exact List.mem_cons_self)), r1 a fun z => ha (List.mem_cons_of_mem _ z)]
      · by_cases e : a = d
        · subst e; rw [upd_same, hu]
        · rcases List.mem_cons.mp ha with z | z
          · exact absurd z e
          · rw [upd_ne e, r2 a z, upd_ne e]
/-- the common part of the locks -/
theorem Ok.lockG {σ : SS} {H H1 : Hp} {i j : Nat} {G : List Addr} {v : V} {d : Od} {prm : Bool} (ok : Ok F Γ Δ σ H) (hj : Δ[j]? = some ⟨G, v, d, prm⟩) (hi : Γ[i]? = some (some (pV v))) (h1 : ∀ a, a ∉ G → H1 a = H a) (h2 : ∀ a ∈ G, ∀ u, H a = some u → ∃ o, H1 a = some (.frz o u)) : Ok F (Γ.set i (some d.pd)) (Δ.eraseIdx j) σ H1 := by
  have hc := ok.hk.del _ (cell_mem hj)
  have fz : Fzs H H1 := lk_fzs (d.cells hc) h1
  have dom : ∀ a o, H a = some o → ∃ u, H1 a = some u := fun a o e => by
    by_cases ha : a ∈ G
    · obtain ⟨q, hq⟩ := h2 a ha o e
      exact ⟨_, hq⟩
    · exact ⟨o, by rw [h1 a ha]; exact e⟩
  refine ⟨⟨fun a o e m => ?_, fun x hx => ?_, ok.hk.nod.sublist (flat_sub (List.eraseIdx_sublist _ _)), fun x hx => ok.hk.own x ((List.eraseIdx_sublist _ _).subset hx), fun a ha => ?_⟩, by rw [List.length_set]; exact ok.len, fun m p e => ?_⟩
  · rw [h1 a fun ha => ?_]
    · exact ok.hk.base a o e m
    · rcases ok.hk.own _ (cell_mem hj) a ha with z | ⟨_, z⟩
      · rw [e] at z; cases z
      · exact m z
  · obtain ⟨n, ne, hn⟩ := mem_erase hx
    refine x.d.frame (ok.hk.del x (cell_mem hn)) (fun a ha o e => ?_) fz
    rw [h1 a fun hc => cell_apart ok.hk.nod hn hj ne a ha hc]
    exact e
  · obtain ⟨o, e⟩ := ok.hk.mem a ha
    exact dom a o e
  · by_cases h : m = i
    · subst h
      rw [List.getElem?_set_self (List.getElem?_eq_some_iff.mp hi).1] at e
      cases e
      obtain ⟨w, hs, hv⟩ := ok.gam m _ hi
      have hv : w = v := hv
      subst hv
      exact ⟨_, hs, d.lockd hc h1 h2⟩
    · rw [List.getElem?_set_ne (fun z => h z.symm)] at e
      obtain ⟨w, hs, hv⟩ := ok.gam m p e
      exact ⟨w, hs, p.mono fz hv⟩
theorem Hk.ndup {H : Hp} {c : Cell} {j : Nat} (k : Hk F Δ H) (hj : Δ[j]? = some c) : c.G.Nodup := by
  have h := k.nod.sublist (flat_sub (List.singleton_sublist.mpr (cell_mem hj)))
  unfold cellsOf at h
  rw [List.flatMap_cons] at h
  exact (List.nodup_append.mp h).1
theorem t_lockG {e : Expr} {β : Type} {T : Option γ} {k : β → Option γ} {c : β → Bool} {G : List Addr} {v : V} {d : Od} {prm : Bool} (j i : Nat)
    (he : PT X e (tTs [] F (Γ.set i (some d.pd)) (Δ.eraseIdx j) T k c fun _ => Δ.eraseIdx j)) (hj : Δ[j]? = some ⟨G, v, d, prm⟩ := by rfl) (hi : Γ[i]? = some (some (pV v)) := by rfl) : PT X e (tTs W F Γ Δ T k c fun _ => Δ) :=
  (pt_lkT he G).wk fun σ H Q ⟨ok, g, e, q⟩ => by
    have hc := ok.hk.del _ (cell_mem hj)
    refine tLkT_of (fun H Q Q' h ⟨a, g, b, c⟩ => ⟨a, g, b, fun b H' k s o => h _ H' (c b H' k s o)⟩) (ok.hk.ndup hj) (d.cells hc) fun H1 h1 h2 => ⟨ok.lockG hj hi h1 h2, g, e, fun b H' kb st ok2 => ⟨fun a ha => ?_, fun H2 r1 r2 => ?_⟩⟩
    · obtain ⟨u, hu, _⟩ := d.cells hc a ha
      obtain ⟨o, ho⟩ := h2 a ha u hu
      rw [ho]
      exact st.gr a _ ho
    · have g2 : Gr H H2 := fun a o e => by
        by_cases ha : a ∈ G
        · rw [r2 a ha]; exact e
        · rw [r1 a ha]
          exact st.gr a o (by rw [h1 a ha]; exact e)
      exact q b H2 kb g2.st (ok.gr g2)
/-! ### a list of lists of one's own: made, a part appended to -/
def oSeq {α : Type} (D : α → Od) (xs : List α) (vs : List V) (gs : List (List Addr)) : Od where
  pr G H _ := G = gs.flatten ∧ Own3 D H xs vs gs
  pd := pTrue
  frame := fun ⟨eg, q⟩ k f => ⟨eg, q.frame f fun a ha => k a (by rw [eg]; exact ha)⟩
  cells := fun ⟨eg, q⟩ a ha => q.cells a (by rw [← eg]; exact ha)
  lockd := fun _ _ _ => trivial
def tArO {α β γ : Type} (W : List Addr) (F : Fm) (Γ : Gm) (Δ : Δs) (T : Option γ) (k : β → Option γ) (D : α → Od) (xs : β → List α) (Δ' : β → Δs) : TA := fun σ H Q =>
  Ok F Γ Δ σ H ∧ ∃ g, T = some g ∧ ∀ b vs gs H', k b = some g → St W H H' → (∀ a ∈ gs.flatten, H a = none) → Ok F Γ (⟨gs.flatten, .non, oSeq D (xs b) vs gs, false⟩ :: Δ' b) σ H' → Q vs H'
theorem ao_nil {α : Type} {D : α → Od} {k : Unit → Option γ} : PA X [] (tArO W F Γ Δ (k ()) k D (fun _ => []) fun _ => Δ) :=
  pa_nil.wk fun σ H Q ⟨ok, g, e, q⟩ => q () [] [] H e (St.refl H) (fun a h => by simp at h) ⟨⟨ok.hk.base, fun c hc => by
    rcases List.mem_cons.mp hc with e | hc
    · subst e; exact ⟨rfl, .nil⟩
    · exact ok.hk.del c hc, ok.hk.nod, fun c hc a ha => by
    rcases List.mem_cons.mp hc with e | hc
    · subst e; simp at ha
    · exact ok.hk.own c hc a ha, ok.hk.mem⟩, ok.len, ok.gam⟩
theorem Hk.glue {α : Type} {D : α → Od} {x : α} {xs : List α} {v : V} {vs : List V} {G : List Addr} {gs : List (List Addr)} {H : Hp} (k : Hk F (⟨gs.flatten, .non, oSeq D xs vs gs, false⟩ :: ⟨G, v, D x, false⟩ :: Δ) H) : Hk F (⟨(G :: gs).flatten, .non, oSeq D (x :: xs) (v :: vs) (G :: gs), false⟩ :: Δ) H := by
  have m1 := k.del _ List.mem_cons_self
  have m2 := k.del _ (List.mem_cons_of_mem _ List.mem_cons_self)
  refine ⟨k.base, fun c hc => ?_, ?_, fun c hc a ha => ?_, k.mem⟩
  · rcases List.mem_cons.mp hc with e | hc
    · subst e; exact ⟨rfl, .cons m2 m1.2⟩
    · exact k.del c (List.mem_cons_of_mem _ (List.mem_cons_of_mem _ hc))
  · have nd := k.nod
    unfold cellsOf at nd ⊢
    rw [List.flatMap_cons, List.flatMap_cons] at nd
    rw [List.flatMap_cons]
    show ((G :: gs).flatten ++ _).Nodup
    rw [List.flatten_cons]
    refine (List.Perm.nodup_iff ?_).mp nd
    rw [← List.append_assoc]
    exact (List.perm_append_comm).append_right _
  · rcases List.mem_cons.mp hc with e | hc
    · subst e
      have ha : a ∈ (G :: gs).flatten := ha
      rw [List.flatten_cons] at ha
      rcases List.mem_append.mp ha with h | h
      · exact k.own _ (List.mem_cons_of_mem _ List.mem_cons_self) a h
      · exact k.own _ List.mem_cons_self a h
    · exact k.own c (List.mem_cons_of_mem _ (List.mem_cons_of_mem _ hc)) a ha
theorem ao_cons {a : Expr} {es : List Expr} {α β1 β2 : Type} {T : Option γ} {k1 : β1 → Option γ} {k : β1 × β2 → Option γ} {D : α → Od} {x : β1 → α} {xs : β1 → β2 → List α} {Δ1 : β1 → Δs} {Δ2 : β1 → β2 → Δs}
    (ha : PE X a (tO W F Γ Δ T k1 (fun b => D (x b)) Δ1)) (hr : ∀ b1 v G, PA X es (tArO W F Γ (⟨G, v, D (x b1), false⟩ :: Δ1 b1) (k1 b1) (fun b2 => k (b1, b2)) D (xs b1) fun b2 => ⟨G, v, D (x b1), false⟩ :: Δ2 b1 b2)) (hs : starEach (a :: es) X.env = (false, eval a X.env) :: starEach es X.env := by rfl) :
    PA X (a :: es) (tArO W F Γ Δ T k D (fun b => x b.1 :: xs b.1 b.2) fun b => Δ2 b.1 b.2) :=
  (pa_cons ha (pa_ex fun b1 => pa_ex fun v => pa_ex fun G => hr b1 v G) hs).wk fun σ H Q ⟨ok, g, e, q⟩ => ⟨ok, g, e, fun b1 v G H1 kb f1 nw1 ok1 => ⟨b1, v, G, ok1, g, kb, fun b2 vs gs H2 kb2 f2 nw2 ok2 => q (b1, b2) (v :: vs) (G :: gs) H2 kb2 (f1.trans f2) (fun a ha => by
    rw [List.flatten_cons] at ha
    rcases List.mem_append.mp ha with h | h
    · exact nw1 a h
    · exact f1.back (nw2 a h)) ⟨ok2.hk.glue, ok2.len, ok2.gam⟩⟩⟩
theorem x_dispO {es : List Expr} {pos : Pos} {β α : Type} {T : Option γ} {k : β → Option γ} {D : α → Od} {xs : β → List α} {Δ1 : β → Δs} (ha : PA X es (tArO W F Γ Δ T k D xs Δ1)) (hz : ∀ b, (xs b).length ≤ 1000) :
    PE X (.List es pos) (tO W F Γ Δ T k (fun b => oLO D (xs b)) Δ1) :=
  (pe_lst ha).wk fun σ H Q ⟨ok, g, e, q⟩ => ⟨ok, g, e, fun b vs gs H' kb f nw ok' => by
    have m := ok'.hk.del _ List.mem_cons_self
    have z : (xs b).length ≤ sizeLine := Nat.le_trans (hz b) (by decide)
    refine ⟨by rw [← m.2.len]; exact z, fun p np => ?_⟩
    have gr : Gr H' (upd H' p (.lst vs)) := Gr.new np
    have ok2 := ok'.gr gr
    have m2 := ok2.hk.del _ List.mem_cons_self
    have pn : p ∉ gs.flatten := fun h => by
      obtain ⟨o, e, _⟩ := m.2.cells p h
      rw [np] at e; cases e
    have nd : gs.flatten.Nodup := by
      have := ok'.hk.nod
      unfold cellsOf at this
      rw [List.flatMap_cons] at this
      exact (List.nodup_append.mp this).1
    refine q b (.ref p) (p :: gs.flatten) _ kb (f.trans gr.st) (fun a ha => ?_) ⟨⟨ok2.hk.base, fun c hc => ?_, ?_, fun c hc a ha => ?_, ok2.hk.mem⟩, ok2.len, ok2.gam⟩
    · rcases List.mem_cons.mp ha with e | ha
      · rw [e]; exact f.back np
      · exact nw a ha
    · rcases List.mem_cons.mp hc with e | hc
      · subst e; exact ⟨p, vs, gs, rfl, rfl, upd_same, z, m2.2⟩
      · exact ok2.hk.del c (List.mem_cons_of_mem _ hc)
    · have n1 := ok'.hk.nod
      unfold cellsOf at n1 ⊢
      rw [List.flatMap_cons] at n1 ⊢
      show (p :: (gs.flatten ++ _)).Nodup
      refine List.nodup_cons.mpr ⟨fun h => ?_, n1⟩
      rcases List.mem_append.mp h with h | h
      · exact pn h
      · obtain ⟨o, e, _⟩ := (ok'.hk.less (.cons _ (List.Sublist.refl _))).isC h
        rw [np] at e; cases e
    · rcases List.mem_cons.mp hc with e | hc
      · subst e
        rcases List.mem_cons.mp ha with e | ha
        · rw [e]; exact .inl (ok'.hk.fresh0 np)
        · exact ok2.hk.own _ List.mem_cons_self a ha
      · exact ok2.hk.own c (List.mem_cons_of_mem _ hc) a ha⟩
theorem Own3.at {α : Type} {D : α → Od} {H : Hp} : ∀ {xs : List α} {vs : List V} {gs : List (List Addr)} {m : Nat} {x : α}, Own3 D H xs vs gs → xs[m]? = some x → ∃ v g, vs[m]? = some v ∧ gs[m]? = some g ∧ (D x).pr g H v
  | _, _, _, _, _, .nil, e => by simp at e
  | _, _, _, 0, _, .cons r _, e => by simp at e; subst e; exact ⟨_, _, rfl, rfl, r⟩
  | _, _, _, m + 1, x, .cons _ t, e => by
    obtain ⟨v, g, h1, h2, h3⟩ := Own3.at (m := m) (x := x) t (by simpa using e)
    exact ⟨v, g, by simpa using h1, by simpa using h2, h3⟩
/-- one part changes, at its own cells -/
theorem Own3.turn {α : Type} {D : α → Od} {H H' : Hp} {y : α} {v : V} {g : List Addr} (f : Fzs H H') (kp : ∀ a o, a ∉ g → H a = some o → H' a = some o) (new : (D y).pr g H' v) : ∀ {xs : List α} {vs : List V} {gs : List (List Addr)} {m : Nat}, Own3 D H xs vs gs → gs.flatten.Nodup → vs[m]? = some v → gs[m]? = some g → Own3 D H' (xs.set m y) vs gs
  | _, _, _, _, .nil, _, e, _ => by simp at e
  | _, _, _, 0, .cons r t, nd, e1, e2 => by
    simp at e1 e2
    subst e1 e2
    rw [List.flatten_cons] at nd
    exact .cons new (t.frame f fun a ha o e => kp a o (fun hg => (List.nodup_append.mp nd).2.2 a hg a ha rfl) e)
  | _, _, g0 :: gs, m + 1, .cons r t, nd, e1, e2 => by
    rw [List.flatten_cons] at nd
    have e2' : gs[m]? = some g := by simpa using e2
    refine .cons ((D _).frame r (fun a ha o e => kp a o (fun hg => ?_) e) f) (Own3.turn f kp new t (List.nodup_append.mp nd).2.1 (by simpa using e1) e2')
    exact (List.nodup_append.mp nd).2.2 a ha a (List.mem_flatten.mpr ⟨g, List.mem_of_getElem? e2', hg⟩) rfl
theorem Own3.glen {α : Type} {D : α → Od} {H : Hp} : ∀ {xs : List α} {vs : List V} {gs : List (List Addr)}, Own3 D H xs vs gs → xs.length = gs.length
  | _, _, _, .nil => rfl
  | _, _, _, .cons _ t => congrArg (· + 1) t.glen
theorem x_appI {o i e : Expr} {ipos apos cpos : Pos} {β1 β2 β3 α : Type} {T : Option γ} {k1 : β1 → Option γ} {k2 : β1 → β2 → Nat → Option γ} {k : ((β1 × β2) × Nat) × β3 → Option γ} {Ee : α → Pd} {n : β1 → β2 → Int} {xs : List (List α)} {y : β1 → β2 → Nat → β3 → α} {G : List Addr} {v : V} {prm : Bool} (j : Nat)
    (ho : PE X o (tE W F Γ Δ T k1 (fun _ => pV v) fun _ => Δ)) (hi : ∀ b1, PE X i (tE W F Γ Δ (k1 b1) (fun b2 => (ixN xs.length (n b1 b2)).bind fun m => k2 b1 b2 m) (fun b2 => pInt (n b1 b2)) fun _ => Δ))
    (he : ∀ b1 b2 m, PE X e (tE [] F Γ Δ (k2 b1 b2 m) (fun b3 => grd ((xs.getD m []).length < sizeLine) (k (((b1, b2), m), b3))) (fun b3 => Ee (y b1 b2 m b3)) fun _ => Δ))
    (hj : Δ[j]? = some ⟨G, v, oLO (oL Ee) xs, prm⟩) (hW : ∀ a ∈ G, a ∈ W) (hpi : PlainIx i := by exact fun _ _ => rfl)
    (hbase : attributeBase (.Subscript o i ipos) "append" X.env (eval (.Subscript o i ipos) X.env) = eval (.Subscript o i ipos) X.env := by rfl) (hline : (apos.endLine == cpos.line) = true := by rfl) (hs : starEach [e] X.env = (false, eval e X.env) :: starEach [] X.env := by rfl)
    (hfew : ((backTo cpos (starEach [e] X.env)).all (fun x => !x.1) && (backToKw cpos (keywordEach [] X.env)).all (fun x => x.1.isSome) && decide ([e].length + ([] : List Keyword).length + (if ([] : List Keyword).isEmpty then 0 else 1) < 30)) = true := by rfl) :
    PE X (.Call (.Attribute (.Subscript o i ipos) "append" apos) [e] [] cpos) (tE W F Γ Δ T k (fun _ => pNon) fun b => Δ.set j ⟨G, v, oLO (oL Ee) (xs.set b.1.2 (xs.getD b.1.2 [] ++ [y b.1.1.1 b.1.1.2 b.1.2 b.2])), prm⟩) :=
  (pe_bm PySem.F.plainAttrs_list PySem.F.slot_list_append PySem.F.type_list_append mt_append (pe_ix ix_list ho (pe_ex hi) hpi) (pa_cons (pe_ex fun b1 => pe_ex fun b2 => pe_ex fun m => he b1 b2 m) pa_nil hs) hbase hfew hline hs).wk fun σ H Q ⟨ok, g, e, q⟩ => ⟨ok, g, e, fun b1 u H1 kb1 f1 ok1 hu => ⟨b1, ok1, g, kb1, fun b2 w H2 kb2 f2 ok2 hw => by
    obtain ⟨m, em, km⟩ := bind_some kb2
    have hu : u = v := hu
    have hw : w = .int (n b1 b2) := hw
    subst hu hw
    obtain ⟨p, vs, gs, eG, ev, hp, z, o3⟩ := ok2.hk.del _ (cell_mem hj)
    have hm : m < xs.length := (ixN_seq em).2.1
    obtain ⟨c, gc, hvc, hgc, pc⟩ := o3.at (List.getElem?_eq_getElem hm)
    have pc' := pc
    obtain ⟨q1, ws1, _, ec1, hq1, _, _⟩ := pc'
    have ec1 : c = .ref q1 := ec1
    have hat : atI vs (n b1 b2) = some c := by
      unfold atI
      rw [← o3.len, em]
      exact hvc
    refine ⟨p, vs, n b1 b2, c, ev, rfl, .inl (.inl hp), hat, by rw [ec1]; exact .inl ⟨rfl, ws1, .inl (.inl hq1)⟩, b1, b2, m, ok2, g, km, fun b3 w H3 kb3 f3 ok3 hw => ?_⟩
    obtain ⟨cg, kb⟩ := grd_some kb3
    have gr3 : Gr H2 H3 := f3.gr
    obtain ⟨q2, ws, eg2, ec, hq, zq, pq⟩ := pc
    have ec : c = .ref q2 := ec
    have hq3 := gr3 _ _ hq
    have gd : xs.getD m [] = xs[m] := by rw [List.getD_eq_getElem?_getD, List.getElem?_eq_getElem hm]; rfl
    rw [gd] at cg
    have hqG : q2 ∈ gs.flatten := List.mem_flatten.mpr ⟨gc, List.mem_of_getElem? hgc, by rw [eg2]; exact List.mem_singleton.mpr rfl⟩
    have ndG : (p :: gs.flatten).Nodup := by
      have h := ok2.hk.ndup hj
      have eG : G = p :: gs.flatten := eG
      have h : G.Nodup := h
      rw [eG] at h
      exact h
    have npq : p ≠ q2 := fun z => (List.nodup_cons.mp ndG).1 (by rw [z]; exact hqG)
    have fzm : Fzs H3 (upd H3 q2 (.lst (ws ++ [w]))) := Fzs.mut hq3 fun z => z
    have kp : ∀ a o, a ∉ gc → H3 a = some o → upd H3 q2 (.lst (ws ++ [w])) a = some o := fun a o na e => by
      rw [upd_ne fun z => na (by rw [eg2, z]; exact List.mem_singleton.mpr rfl)]; exact e
    have eGG : G = p :: gs.flatten := eG
    obtain ⟨ok4, f4⟩ := ok3.turn (H' := upd H3 q2 (.lst (ws ++ [w]))) (d' := oLO (oL Ee) (xs.set m (xs.getD m [] ++ [y b1 b2 m b3]))) hj (fun a o na e => kp a o (fun hg => na (by
      show a ∈ G
      rw [eGG]
      exact List.mem_cons_of_mem _ (List.mem_flatten.mpr ⟨gc, List.mem_of_getElem? hgc, hg⟩)) ) e)
      ⟨p, vs, gs, eG, ev, by rw [upd_ne npq]; exact gr3 _ _ hp, by rw [List.length_set]; exact z, Own3.turn fzm kp (by
        rw [gd]
        exact ⟨q2, ws ++ [w], eg2, ec, upd_same, by rw [List.length_append, List.length_singleton]; omega, paired_app (paired_mono (fun x _ h => (Ee x).mono fzm ((Ee x).mono gr3.fzs h)) pq) (.cons ((Ee _).mono fzm hw) .nil)⟩) (o3.frame gr3.fzs fun a ha o e => gr3 a o e) (List.nodup_cons.mp ndG).2 hvc hgc⟩
    refine ⟨q2, ws, w, ec, rfl, hq3, by rw [← paired_len pq]; exact cg, q (((b1, b2), m), b3) .non _ kb ((f1.trans f2).trans (gr3.st.trans ⟨f4, fun a o na e => ?_, upd_dom _ _⟩)) ok4 rfl⟩
    rw [upd_ne fun z => na (hW a (by rw [eGG, z]; exact List.mem_cons_of_mem _ hqG))]
    exact e⟩⟩
end
end L3
end
section
set_option Elab.async false
set_option linter.all false
set_option maxRecDepth 100000
set_option maxHeartbeats 4000000
namespace L3
open PySem PySem.Spec PyProof.Rows L2
section
variable {X : Cx} {W : List Addr} {F : Fm} {Γ : Gm} {Δ : Δs} {γ : Type} {N : Fn γ} {rest : List Stmt}
/-- name = e by the statement's own rule (a comprehension) -/
theorem s_letOA {i : Nat} {st : Stmt} {β α : Type} {T : Option γ} {Δ' : β → Δs} {val : β → α} {k2 : β → α → Option γ} (D0 : α → Od) (hst : PS X st (tAsg (tO (cellsOf Δ) F Γ Δ T (fun b => (some (val b)).bind (k2 b)) (fun b => D0 (val b)) Δ') (gName i)))
    (hr : ∀ b a v G, PSs X rest (tS F (Γ.set i (some (pV v))) (⟨G, v, D0 a, false⟩ :: Δ' b) N (k2 b a))) : PSs X (st :: rest) (tS F Γ Δ N T) :=
  (pss_cons hst (pss_ex fun b => pss_ex fun v => pss_ex fun G => hr b (val b) v G)).wk fun D σ H ⟨ok, g, e, f⟩ => ⟨ok, g, e, fun b v G H' kb fz _ ok' => ⟨b, v, G, ok'.set rfl, g, kb, N.mono f fz.fz⟩⟩
theorem erase_perm {α : Type} {c : α} : ∀ {l : List α} {j : Nat}, l[j]? = some c → (c :: l.eraseIdx j).Perm l
  | [], _, h => by simp at h
  | x :: l, 0, h => by
    have e : x = c := by simpa using h
    rw [e]; exact List.Perm.refl _
  | x :: l, j + 1, h => by
    have q : l[j]? = some c := by simpa using h
    exact (List.Perm.swap x c _).trans ((erase_perm q).cons x)
/-- return x, x a cell of one's own -/
theorem s_retV {e : Expr} {pos : Pos} {β ρ : Type} {T : Option γ} {Δ' : β → Δs} {P : ρ → Δs} {Ro : ρ → Od} {ι : ρ → γ} {rv : β → ρ} {G : List Addr} {v : V} (j : Nat) (hN : ∀ H r D, N.fin H (ι r) D → RO F P Ro r D.rt) (he : PE X e (tE (cellsOf Δ) F Γ Δ T (fun b => some (ι (rv b))) (fun _ => pV v) Δ'))
    (hj : ∀ b, (Δ' b)[j]? = some ⟨G, v, Ro (rv b), false⟩) (hP : ∀ b, (P (rv b)).Sublist ((Δ' b).eraseIdx j)) : PSs X [.Return (some e) pos] (tS F Γ Δ N T) :=
  (pss_one (ps_ret he)).wk fun D σ H ⟨ok, g, e, f⟩ => ⟨ok, g, e, fun b w H' kb fz ok' hw => by
    have eg : g = ι (rv b) := (Option.some.inj kb).symm
    rw [eg] at f
    have hw : w = v := hw
    subst hw
    exact hN _ _ D f w G H' ((ok'.hk.perm (erase_perm (hj b)).symm).less ((hP b).cons₂ _))⟩
end
end L3
end
section
set_option Elab.async false
set_option linter.all false
set_option maxRecDepth 100000
set_option maxHeartbeats 4000000
namespace L3
open PySem PySem.Spec PyProof.Rows L2
section
variable {X : Cx} {W : List Addr} {F : Fm} {Γ : Gm} {Δ : Δs} {γ : Type}
section
variable {a : Expr} {pos : Pos} {β : Type} {T : Option γ} {k : β → Option γ} {Δ1 : β → Δs} {i : β → Int}
theorem x_neg (ha : PE X a (tE W F Γ Δ T k (fun b => pInt (i b)) Δ1)) : PE X (.UnaryOp .USub a pos) (tE W F Γ Δ T k (fun b => pInt (-(i b))) Δ1) :=
  x1t (u_un un_neg) ha fun b σ v H Q _ hv q => ⟨i b, hv, q _ rfl⟩
end
section
variable {a b : Expr} {pos : Pos} {β1 β2 : Type} {T : Option γ} {k1 : β1 → Option γ} {k : β1 × β2 → Option γ} {Δ1 : β1 → Δs} {Δ2 : β1 → β2 → Δs} {i : β1 → Str} {j : β1 → β2 → Str}
theorem x_addS (ha : PE X a (tE W F Γ Δ T k1 (fun b => pStr (i b)) Δ1)) (hb : ∀ b1, PE X b (tE W F Γ (Δ1 b1) (k1 b1) (fun b2 => grd ((i b1).length + (j b1 b2).length ≤ sizeLine) (k (b1, b2))) (fun b => pStr (j b1 b)) (Δ2 b1))) :
    PE X (.BinOp a .Add b pos) (tE W F Γ Δ T k (fun b => pStr (i b.1 ++ j b.1 b.2)) fun b => Δ2 b.1 b.2) :=
  x2g (b_op op_add_str) ha hb fun b1 b2 _ v w H Q _ c hv hw q => ⟨i b1, j b1 b2, hv, hw, c, q _ rfl⟩
end
/-- None | a value as a maybe -/
theorem co_none {α β : Type} {E : α → Pd} {e : Expr} {T : Option γ} {k : β → Option γ} {Δ' : β → Δs} (he : PE X e (tE W F Γ Δ T k (fun _ => pNon) Δ')) : PE X e (tE W F Γ Δ T k (fun _ => pOp E (none : Option α)) Δ') := he
theorem co_some {α β : Type} {E : α → Pd} {x : β → α} {e : Expr} {T : Option γ} {k : β → Option γ} {Δ' : β → Δs} (he : PE X e (tE W F Γ Δ T k (fun b => E (x b)) Δ')) : PE X e (tE W F Γ Δ T k (fun b => pOp E (some (x b))) Δ') := he
def oSel {α β : Type} (o : Option α) (a b : β) : β := match o with
  | none => a
  | some _ => b
theorem tyOp {α : Type} {E : α → Pd} {t : String} {o : Option α} (h : ∀ x, TyP Δ (E x) t) : TyP Δ (pOp E o) (oSel o "NoneType" t) := by
  cases o with
  | none => exact tyNon
  | some x => exact h x
theorem kitOp {α : Type} {a b c : String} {r q : Bool} {o : Option α} (h1 : kitB a c = some r) (h2 : kitB b c = some q) : kitB (oSel o a b) c = some (oSel o r q) := by cases o <;> assumption
def opV : Option Int → V
  | none => .non
  | some i => .int i
def opS : Option Str → V
  | none => .non
  | some i => .str i
def flOpI : Flat (pOp pInt) := ⟨opV, fun {x H v} h => by cases x <;> exact h, fun {x H} => by cases x <;> rfl, fun x => by cases x <;> rfl, fun x y => by
  cases x with
  | none => cases y <;> rfl
  | some a => cases y with
    | none => rfl
    | some b => show (a == b) = _; by_cases h : a = b <;> simp [h]⟩
def flOpS : Flat (pOp pStr) := ⟨opS, fun {x H v} h => by cases x <;> exact h, fun {x H} => by cases x <;> rfl, fun x => by cases x <;> rfl, fun x y => by
  cases x with
  | none => cases y <;> rfl
  | some a => cases y with
    | none => rfl
    | some b => show (a == b) = _; by_cases h : a = b <;> simp [h]⟩
section
variable {a b : Expr} {pos : Pos} {β1 β2 : Type} {T : Option γ} {k1 : β1 → Option γ} {k : β1 × β2 → Option γ} {Δ1 : β1 → Δs} {Δ2 : β1 → β2 → Δs} {i : β1 → Option Int} {j : β1 → β2 → Option Int} {c : β1 → Option Str} {d : β1 → β2 → Option Str}
theorem scOI (x y : Option Int) : scal (flOpI.mp x) (flOpI.mp y) = true := by cases x <;> cases y <;> rfl
theorem scOS (x y : Option Str) : scal (flOpS.mp x) (flOpS.mp y) = true := by cases x <;> cases y <;> rfl
theorem inOI (x y : Option Int) (h : flOpI.mp x = flOpI.mp y) : x = y := by cases x <;> cases y <;> first | rfl | (cases h; done) | (cases h; rfl)
theorem inOS (x y : Option Str) (h : flOpS.mp x = flOpS.mp y) : x = y := by cases x <;> cases y <;> first | rfl | (cases h; done) | (cases h; rfl)
theorem x_eqOI (ha : PE X a (tE W F Γ Δ T k1 (fun b => pOp pInt (i b)) Δ1)) (hb : ∀ b1, PE X b (tE W F Γ (Δ1 b1) (k1 b1) (fun b2 => k (b1, b2)) (fun b => pOp pInt (j b1 b)) (Δ2 b1))) : PE X (.Compare a [.Eq] [b] pos) (tE W F Γ Δ T k (fun b => pBl (decide (i b.1 = j b.1 b.2))) fun b => Δ2 b.1 b.2) := x2t (b_cmp op_eq (nomark _)) ha hb (v_eqF flOpI scOI inOI)
theorem x_neOI (ha : PE X a (tE W F Γ Δ T k1 (fun b => pOp pInt (i b)) Δ1)) (hb : ∀ b1, PE X b (tE W F Γ (Δ1 b1) (k1 b1) (fun b2 => k (b1, b2)) (fun b => pOp pInt (j b1 b)) (Δ2 b1))) : PE X (.Compare a [.NotEq] [b] pos) (tE W F Γ Δ T k (fun b => pBl (!decide (i b.1 = j b.1 b.2))) fun b => Δ2 b.1 b.2) := x2t (b_cmp op_ne (nomark _)) ha hb (v_neF flOpI scOI inOI)
theorem t_eqOI (ha : PE X a (tE W F Γ Δ T k1 (fun b => pOp pInt (i b)) Δ1)) (hb : ∀ b1, PE X b (tE W F Γ (Δ1 b1) (k1 b1) (fun b2 => k (b1, b2)) (fun b => pOp pInt (j b1 b)) (Δ2 b1))) : PT X (.Compare a [.Eq] [b] pos) (tTs W F Γ Δ T k (fun b => decide (i b.1 = j b.1 b.2)) fun b => Δ2 b.1 b.2) := t2t (bt_cmp op_eq (nomark _)) ha hb (v_eqF flOpI scOI inOI)
theorem t_neOI (ha : PE X a (tE W F Γ Δ T k1 (fun b => pOp pInt (i b)) Δ1)) (hb : ∀ b1, PE X b (tE W F Γ (Δ1 b1) (k1 b1) (fun b2 => k (b1, b2)) (fun b => pOp pInt (j b1 b)) (Δ2 b1))) : PT X (.Compare a [.NotEq] [b] pos) (tTs W F Γ Δ T k (fun b => !decide (i b.1 = j b.1 b.2)) fun b => Δ2 b.1 b.2) := t2t (bt_cmp op_ne (nomark _)) ha hb (v_neF flOpI scOI inOI)
theorem x_eqOS (ha : PE X a (tE W F Γ Δ T k1 (fun b => pOp pStr (c b)) Δ1)) (hb : ∀ b1, PE X b (tE W F Γ (Δ1 b1) (k1 b1) (fun b2 => k (b1, b2)) (fun b => pOp pStr (d b1 b)) (Δ2 b1))) : PE X (.Compare a [.Eq] [b] pos) (tE W F Γ Δ T k (fun b => pBl (decide (c b.1 = d b.1 b.2))) fun b => Δ2 b.1 b.2) := x2t (b_cmp op_eq (nomark _)) ha hb (v_eqF flOpS scOS inOS)
theorem x_neOS (ha : PE X a (tE W F Γ Δ T k1 (fun b => pOp pStr (c b)) Δ1)) (hb : ∀ b1, PE X b (tE W F Γ (Δ1 b1) (k1 b1) (fun b2 => k (b1, b2)) (fun b => pOp pStr (d b1 b)) (Δ2 b1))) : PE X (.Compare a [.NotEq] [b] pos) (tE W F Γ Δ T k (fun b => pBl (!decide (c b.1 = d b.1 b.2))) fun b => Δ2 b.1 b.2) := x2t (b_cmp op_ne (nomark _)) ha hb (v_neF flOpS scOS inOS)
theorem t_eqOS (ha : PE X a (tE W F Γ Δ T k1 (fun b => pOp pStr (c b)) Δ1)) (hb : ∀ b1, PE X b (tE W F Γ (Δ1 b1) (k1 b1) (fun b2 => k (b1, b2)) (fun b => pOp pStr (d b1 b)) (Δ2 b1))) : PT X (.Compare a [.Eq] [b] pos) (tTs W F Γ Δ T k (fun b => decide (c b.1 = d b.1 b.2)) fun b => Δ2 b.1 b.2) := t2t (bt_cmp op_eq (nomark _)) ha hb (v_eqF flOpS scOS inOS)
theorem t_neOS (ha : PE X a (tE W F Γ Δ T k1 (fun b => pOp pStr (c b)) Δ1)) (hb : ∀ b1, PE X b (tE W F Γ (Δ1 b1) (k1 b1) (fun b2 => k (b1, b2)) (fun b => pOp pStr (d b1 b)) (Δ2 b1))) : PT X (.Compare a [.NotEq] [b] pos) (tTs W F Γ Δ T k (fun b => !decide (c b.1 = d b.1 b.2)) fun b => Δ2 b.1 b.2) := t2t (bt_cmp op_ne (nomark _)) ha hb (v_neF flOpS scOS inOS)
end
/-! leaves where the mirror is known -/
section
variable {T : Option γ}
theorem y_var (i : Nat) {x : Str} {pos : Pos} {p : Pd} (h : Γ[i]? = some (some p) := by rfl) (hN : X.N[i]? = some x := by rfl) (hv : Vis X.env.scope x := by first | exact Or.inl rfl | exact Or.inr (Or.inl rfl) | exact Or.inr (Or.inr rfl))
    (hd : (x == ("__debug__" : Str)) = false := by decide) (hcd : (x == ("__classdict__" : Str)) = false := by decide) : PE X (.Name x pos) (tE W F Γ Δ T (fun _ : Unit => T) (fun _ => p) fun _ => Δ) := x_var (k := fun _ => T) i h hN hv hd hcd
theorem y_int {i : Int} {j pos} : PE X (.Constant (.int i) j pos) (tE W F Γ Δ T (fun _ : Unit => T) (fun _ => pInt i) fun _ => Δ) := x_int (k := fun _ => T)
theorem y_bl {i : Bool} {j pos} : PE X (.Constant (.bool i) j pos) (tE W F Γ Δ T (fun _ : Unit => T) (fun _ => pBl i) fun _ => Δ) := x_bl (k := fun _ => T)
theorem y_str {i : Str} {j pos} : PE X (.Constant (.str i) j pos) (tE W F Γ Δ T (fun _ : Unit => T) (fun _ => pStr i) fun _ => Δ) := x_str (k := fun _ => T)
theorem y_non {j pos} : PE X (.Constant .none j pos) (tE W F Γ Δ T (fun _ : Unit => T) (fun _ => pNon) fun _ => Δ) := x_non (k := fun _ => T)
theorem b_nil : PA X [] (tAr W F Γ Δ T (fun _ : Unit => T) (fun _ => []) fun _ => Δ) := a_nil (k := fun _ => T)
theorem q_none : PO X none (tPo W F Γ Δ T (fun _ : Unit => T) (fun _ => none) fun _ => Δ) := p_none (k := fun _ => T)
theorem y_nil {pos : Pos} {α : Type} (Ee : α → Pd) : PE X (.List [] pos) (tO W F Γ Δ T (fun _ : Unit => T) (fun _ => oL Ee []) fun _ => Δ) := x_nil (k := fun _ => T) Ee
end
end
end L3
end
section
set_option Elab.async false
set_option linter.all false
set_option maxRecDepth 100000
set_option maxHeartbeats 4000000
namespace L3
open PySem PySem.Spec PyProof.Rows L2
section
variable {X : Cx} {W : List Addr} {F : Fm} {Γ : Gm} {Δ : Δs} {γ : Type}
/-- the mirror, the kind and the cells flow up from below, and are compared at the end -/
theorem x_out {β : Type} {e : Expr} {T T' : Option γ} {k : β → Option γ} {E E' : β → Pd} {Δ' Δ'' : β → Δs} (h : PE X e (tE W F Γ Δ T' k E' Δ''))
    (hT : T = T' := by rfl) (hE : ∀ b, E b = E' b := by intro _; rfl) (hΔ : ∀ b, Δ' b = Δ'' b := by intro _; rfl) : PE X e (tE W F Γ Δ T k E Δ') := by
  have e1 : E = E' := funext hE
  have e2 : Δ' = Δ'' := funext hΔ
  subst hT e1 e2
  exact h
theorem t_out {β : Type} {e : List Expr} {T T' : Option γ} {k : β → Option γ} {c c' : β → Bool} {Δ' Δ'' : β → Δs} (h : PTs X e (tTs W F Γ Δ T' k c' Δ''))
    (hT : T = T' := by rfl) (hE : ∀ b, c b = c' b := by intro _; rfl) (hΔ : ∀ b, Δ' b = Δ'' b := by intro _; rfl) : PTs X e (tTs W F Γ Δ T k c Δ') := by
  have e1 : c = c' := funext hE
  have e2 : Δ' = Δ'' := funext hΔ
  subst hT e1 e2
  exact h
theorem x_kd {β : Type} {e : Expr} {T : Option γ} {k : β → Option γ} {E E' : β → Pd} {Δ' : β → Δs} (h : PE X e (tE W F Γ Δ T k E' Δ')) (hE : ∀ b, E b = E' b := by intro _; rfl) : PE X e (tE W F Γ Δ T k E Δ') := by
  have e1 : E = E' := funext hE
  subst e1
  exact h
theorem o_kd {β : Type} {e : Expr} {T : Option γ} {k : β → Option γ} {E E' : β → Od} {Δ' : β → Δs} (h : PE X e (tO W F Γ Δ T k E' Δ')) (hE : ∀ b, E b = E' b := by intro _; rfl) : PE X e (tO W F Γ Δ T k E Δ') := by
  have e1 : E = E' := funext hE
  subst e1
  exact h
theorem t_kd {β : Type} {e : Expr} {T : Option γ} {k : β → Option γ} {c c' : β → Bool} {Δ' : β → Δs} (h : PT X e (tTs W F Γ Δ T k c' Δ')) (hE : ∀ b, c b = c' b := by intro _; rfl) : PT X e (tTs W F Γ Δ T k c Δ') := by
  have e1 : c = c' := funext hE
  subst e1
  exact h
theorem s_T {st : List Stmt} {N : Fn γ} {T T' : Option γ} (h : PSs X st (tS F Γ Δ N T')) (hT : T = T' := by rfl) : PSs X st (tS F Γ Δ N T) := by
  subst hT
  exact h
theorem t_totV {β : Type} {e : Expr} {T : Option γ} {c : β → Bool} {Δ' : β → Δs} (c0 : Bool) (b0 : β) (hβ : ∀ b, b = b0) (he : PT X e (tTs W F Γ Δ T (fun _ : β => T) c Δ')) (hΔ : Δ = Δ' b0 := by rfl) (hc : c0 = c b0 := by rfl) : PT X e (tTs W F Γ Δ T (fun _ : Unit => T) (fun _ => c0) fun _ => Δ) := by
  have h := t_tot b0 hβ he
  rw [← hc, ← hΔ] at h
  exact h
theorem x_totV {β : Type} {e : Expr} {T : Option γ} {E : β → Pd} {Δ' : β → Δs} (E0 : Pd) (b0 : β) (hβ : ∀ b, b = b0) (he : PE X e (tE W F Γ Δ T (fun _ : β => T) E Δ')) (hΔ : Δ = Δ' b0 := by rfl) (hc : E0 = E b0 := by rfl) : PE X e (tE W F Γ Δ T (fun _ : Unit => T) (fun _ => E0) fun _ => Δ) := by
  have h := x_tot b0 hβ he
  rw [← hc, ← hΔ] at h
  exact h
end
end L3
end
section
set_option Elab.async false
set_option linter.all false
set_option maxRecDepth 100000
set_option maxHeartbeats 4000000
namespace L3
open PySem PySem.Spec PyProof.Rows L2
/-- the law's script: a list of integers that nobody changes, locked or kept by the head -/
def pS (K : PySem.W.Frag) (xs : List Int) : Pd where
  pr H v := ∃ a, v = .ref a ∧ xs.length ≤ sizeLine ∧ ((∃ o, H a = some (.frz o (.lst (xs.map V.int)))) ∨ ∃ (o : Obj) (its : Array Value) (n : Nat), K.lookup a = some o ∧ o.cls = .type "list" ∧ o.dict = none ∧ o.data = .seq its n ∧ its.size ≤ sizeLine ∧ Vals (xs.map V.int) its.toList)
  mono := fun f ⟨a, e, z, h⟩ => ⟨a, e, z, h.imp (fun ⟨o, h⟩ => ⟨o, f _ _ trivial h⟩) id⟩
theorem pS_sq {K : PySem.W.Frag} {xs : List Int} {H : Hp} {v : V} (h : (pS K xs).pr H v) : ∃ a, v = .ref a ∧ SqL K H a (xs.map V.int) ∧ xs.length ≤ sizeLine := by
  obtain ⟨a, e, z, h⟩ := h
  refine ⟨a, e, ?_, z⟩
  rcases h with ⟨o, h⟩ | h
  · exact .inl (.inr ⟨o, h⟩)
  · exact .inr h
theorem pS_of {K : PySem.W.Frag} {xs : List Int} {H : Hp} {v : V} (h : (pL pInt xs).pr H v) : (pS K xs).pr H v := by
  obtain ⟨a, o, vs, e, h, z, p⟩ := h
  rw [paired_ints p] at h
  exact ⟨a, e, z, .inl ⟨o, h⟩⟩
section
variable {X : Cx} {W : List Addr} {F : Fm} {Γ : Gm} {Δ : Δs} {γ : Type}
section
variable {a b : Expr} {pos : Pos} {β1 β2 : Type} {T : Option γ} {k1 : β1 → Option γ} {Δ1 : β1 → Δs} {Δ2 : β1 → β2 → Δs} {xs : β1 → List Int} {j : β1 → β2 → Int}
theorem x_ixS {k : (β1 × β2) × Int → Option γ} (ha : PE X a (tE W F Γ Δ T k1 (fun b => pS X.K (xs b)) Δ1)) (hb : ∀ b1, PE X b (tE W F Γ (Δ1 b1) (k1 b1) (fun b2 => (atI (xs b1) (j b1 b2)).bind fun x => k ((b1, b2), x)) (fun b => pInt (j b1 b)) (Δ2 b1)))
    (hs : PlainIx b := by exact fun _ _ => rfl) : PE X (.Subscript a b pos) (tE W F Γ Δ T k (fun b => pInt b.2) fun b => Δ2 b.1.1 b.1.2) :=
  x2p (b_ix ix_list hs) ha hb fun b1 b2 x σ v w H Q ok e hv hw q => by
    obtain ⟨p, ev, sq, _⟩ := pS_sq hv
    obtain ⟨u, eu, pu⟩ := paired_atI (ints_paired (H := H) (xs b1)) e
    exact ⟨p, _, j b1 b2, u, ev, hw, sq, eu, q u pu⟩
end
section
variable {a : Expr} {pos p : Pos} {β : Type} {T : Option γ} {Δ1 : β → Δs} {xs : β → List Int} {k : β → Option γ}
theorem x_lenS (hm : X.mg "len" = none) (ha : PE X a (tE W F Γ Δ T k (fun b => pS X.K (xs b)) Δ1)) (hg : Gl X "len" := by rfl) (hs : starEach [a] X.env = (false, eval a X.env) :: starEach [] X.env := by rfl) : PE X (.Call (.Name "len" p) [a] [] pos) (tE W F Γ Δ T k (fun b => pInt ((xs b).length : Int)) Δ1) :=
  x1t (u_callB call_len_seq hg hm PySem.boot_len (by decide) (by decide) hs) ha fun b σ v H Q ok hv q => by
    obtain ⟨p, ev, sq, _⟩ := pS_sq hv
    rw [ev]
    exact ⟨p, _, rfl, .inl sq, by rw [List.length_map]; exact q _ rfl⟩
end
end

def Sp_S (K : PySem.W.Frag) (Mf : List Int → Option Bool) : Sp := fun vs H Q _ => ∃ (a : Addr) (ns : List Int), vs = [.ref a] ∧ ns.length ≤ sizeLine ∧ SqL K H a (ns.map V.int) ∧ ∃ r, Mf ns = some r ∧ ∀ H', Q (.bl r) H'
theorem fn_S {P : Program} {w : World} {K : PySem.W.Frag} {mg : Str → Option Value} {base : Heap} {x qual : Str} {params : Arguments} {body : List Stmt} {scope : Scope} {dvs : List V} {kws : List (Str × V)} {f : Addr} {fd : FuncData} {N ps : List Str} {k : Nat} {Mf : List Int → Option Bool}
    (FD : FunD K x qual params body scope dvs kws f fd) (S : FnScope N ps scope) (hl : 1 = ps.length)
    (hb : ∀ (cdv : Value) (A : Around) (outer : List Env) (s : Shared) (H : Hp) (E : XK) (hr : Room k (A.deeper (envOfC qual scope s.heap.objs.size f cdv))) (M : List Addr) (a1 : List Int), PSs (cxOf CX0 P w K mg base N qual scope f cdv A outer s H E).nox body
      (tS ⟨H, M⟩ (([pS K a1] : List Pd).map some ++ List.replicate (N.length - 1) none) [] (fF (RF ⟨H, M⟩ (fun _ => []) pBl)) (Mf a1))) : FnOk P w K mg base CX0 (k + 1) f fd ps (Sp_S K Mf) := by
  refine FD.ok S (fun vs H Q E h => ?_) (fun cdv A outer s H vs Q E hr h => ?_)
  · obtain ⟨a, ns, rfl, _⟩ := h
    exact hl
  · obtain ⟨a, ns, rfl, z, sq, r, hM, fin⟩ := h
    have fin' : ∀ M, RF ⟨H, M⟩ (fun _ => []) pBl r Q := fun M v H' _ hv => by
      rw [show v = .bl r from hv]
      exact fin H'
    by_cases hu : H a = some (.lst (ns.map V.int))
    · refine ⟨tS ⟨H, [a]⟩ (([pV (.ref a)] : List Pd).map some ++ List.replicate (N.length - 1) none) [⟨[a], .ref a, oL pInt ns, true⟩] (fF (RF ⟨H, [a]⟩ (fun _ => []) pBl)) (Mf ns), PSs.nox (s_frz (i := 0) (c := ⟨[a], .ref a, oL pInt ns, true⟩) 0 ?_), ok_start rfl (.cons rfl .nil) ?_ ?_ rfl ?_, r, hM, fin' _⟩
      · refine (hb cdv A outer s H E hr [a] ns).wk fun D σ H' ⟨ok, g, e, q⟩ => ⟨⟨ok.hk, ok.len, fun i p e => ?_⟩, g, e, q⟩
        cases i with
        | zero =>
          cases e
          obtain ⟨v, hs, hv⟩ := ok.gam 0 (pL pInt ns) rfl
          exact ⟨v, hs, pS_of hv⟩
        | succ i => exact ok.gam (i + 1) p e
      · intro c hc
        rw [List.mem_singleton.mp hc]
        exact ⟨a, ns.map V.int, rfl, rfl, hu, z, ints_paired ns⟩
      · exact List.nodup_cons.mpr ⟨by simp, List.nodup_nil⟩
      · intro c hc
        rw [List.mem_singleton.mp hc]
    · refine ⟨_, PSs.nox (hb cdv A outer s H E hr [] ns), ok_start rfl (.cons ⟨a, rfl, z, ?_⟩ .nil) (fun _ h => nomatch h) List.nodup_nil rfl (fun _ h => nomatch h), r, hM, fin' _⟩
      rcases sq with (h | ⟨o, h⟩) | h
      · exact absurd h hu
      · exact .inl ⟨o, h⟩
      · exact .inr h
end L3
end
section
set_option Elab.async false
set_option linter.all false
set_option maxRecDepth 100000
set_option maxHeartbeats 4000000
namespace L3
open PySem PySem.Spec PyProof.Rows L2
/-! ### dicts: keys are texts or integers -/
class Ky (κ : Type) where
  ky : κ → Key
  kp : κ → Pd
  inj : ∀ {x y : κ}, ky x = ky y → x = y
  is : ∀ {x : κ} {H : Hp} {v : V}, (kp x).pr H v → v = kV (ky x)
  of : ∀ (x : κ) (H : Hp), (kp x).pr H (kV (ky x))
@[reducible] instance kyS : Ky Str := { ky := .inr, kp := pStr, inj := fun h => Sum.inr.inj h, is := fun h => h, of := fun _ _ => rfl }
@[reducible] instance kyI : Ky Int := { ky := .inl, kp := pInt, inj := fun h => Sum.inl.inj h, is := fun h => h, of := fun _ _ => rfl }
section
variable {κ α : Type} [DecidableEq κ]
def dget (d : List (κ × α)) (k : κ) : Option α := (d.find? fun p => decide (p.1 = k)).map (·.2)
def dhas (d : List (κ × α)) (k : κ) : Bool := d.any fun p => decide (p.1 = k)
def dput (d : List (κ × α)) (k : κ) (v : α) : List (κ × α) := if (d.any fun p => decide (p.1 = k)) = true then d.map (fun p => if p.1 = k then (p.1, v) else p) else d ++ [(k, v)]
def ddel (d : List (κ × α)) (k : κ) : List (κ × α) := d.filter fun p => decide (p.1 ≠ k)
theorem dhas_get (k : κ) : ∀ d : List (κ × α), dhas d k = (dget d k).isSome
  | [] => rfl
  | p :: r => by
    have ih := dhas_get k r
    unfold dhas dget at ih ⊢
    rw [List.any_cons, List.find?_cons]
    by_cases h : p.1 = k
    · simp [h]
    · simp only [decide_eq_false h, Bool.false_or]; exact ih
theorem dput_len (d : List (κ × α)) (k : κ) (v : α) : (dput d k v).length ≤ d.length + 1 := by
  unfold dput
  split
  · rw [List.length_map]; omega
  · rw [List.length_append]; exact Nat.le_refl _
theorem ddel_len (d : List (κ × α)) (k : κ) : (ddel d k).length ≤ d.length := List.length_filter_le _ _
end
section
variable {κ α : Type} [DecidableEq κ] [Ky κ]
/-- pairs and what stands for them -/
abbrev PrM (E : α → Pd) (H : Hp) (x : κ × α) (u : Key × V) : Prop := u.1 = Ky.ky x.1 ∧ (E x.2).pr H u.2
theorem prM_mono {E : α → Pd} {H H' : Hp} (f : Fzs H H') {xs : List (κ × α)} {us : List (Key × V)} (p : Paired (PrM E H) xs us) : Paired (PrM E H') xs us := paired_mono (fun x _ q => ⟨q.1, (E x.2).mono f q.2⟩) p
def pM (E : α → Pd) (xs : List (κ × α)) : Pd where
  pr H v := ∃ a o kvs, v = .ref a ∧ H a = some (.frz o (.dK kvs)) ∧ xs.length ≤ sizeLine ∧ Paired (PrM E H) xs kvs
  mono := fun f ⟨a, o, vs, e, h, z, p⟩ => ⟨a, o, vs, e, f _ _ trivial h, z, prM_mono f p⟩
def oM (E : α → Pd) (xs : List (κ × α)) : Od where
  pr G H v := ∃ p kvs, G = [p] ∧ v = .ref p ∧ H p = some (.dK kvs) ∧ xs.length ≤ sizeLine ∧ Paired (PrM E H) xs kvs
  pd := pM E xs
  frame := fun ⟨p, vs, eg, ev, h, z, q⟩ k f => ⟨p, vs, eg, ev, k p (by rw [eg]; exact List.mem_singleton.mpr rfl) _ h, z, prM_mono f q⟩
  cells := fun ⟨p, vs, eg, ev, h, z, q⟩ => one_cells eg h trivial
  lockd := fun ⟨p, vs, eg, ev, h, z, q⟩ h1 h2 => by
    obtain ⟨o, ho⟩ := h2 p (by rw [eg]; exact List.mem_singleton.mpr rfl) _ h
    exact ⟨p, o, vs, ev, ho, z, prM_mono (lk_fzs (one_cells eg h trivial) h1) q⟩
theorem dget_neg {κ α : Type} [DecidableEq κ] {p : κ × α} {r : List (κ × α)} {k : κ} (h : ¬ p.1 = k) : dget (p :: r) k = dget r k := by unfold dget; rw [List.find?_cons, decide_eq_false h]
theorem dget_pos {κ α : Type} [DecidableEq κ] {p : κ × α} {r : List (κ × α)} {k : κ} (h : p.1 = k) : dget (p :: r) k = some p.2 := by unfold dget; rw [List.find?_cons, decide_eq_true h]; rfl
theorem prM_get {E : α → Pd} {H : Hp} (k : κ) : ∀ {xs : List (κ × α)} {us : List (Key × V)}, Paired (PrM E H) xs us → (dget xs k = none ∧ valV us (Ky.ky k) = none) ∨ ∃ x v, dget xs k = some x ∧ valV us (Ky.ky k) = some v ∧ (E x).pr H v
  | [], [], .nil => .inl ⟨rfl, rfl⟩
  | x :: xs, u :: us, .cons r t => by
    by_cases h : x.1 = k
    · exact .inr ⟨x.2, u.2, dget_pos h, valV_pos (by rw [r.1, h]), r.2⟩
    · rw [dget_neg h, valV_neg (fun z => h (Ky.inj (by rw [← r.1, z])))]
      exact prM_get k t
theorem prM_any {E : α → Pd} {H : Hp} (k : κ) : ∀ {xs : List (κ × α)} {us : List (Key × V)}, Paired (PrM E H) xs us → (xs.any fun p => decide (p.1 = k)) = us.any fun kv => decide (kv.1 = Ky.ky k)
  | _, _, .nil => rfl
  | _, _, .cons (a := x) (b := u) r t => by
    rw [List.any_cons, List.any_cons, prM_any k t]
    congr 1
    by_cases h : x.1 = k
    · rw [decide_eq_true h, decide_eq_true (by rw [r.1, h])]
    · rw [decide_eq_false h, decide_eq_false (fun z => h (Ky.inj (by rw [← r.1, z])))]
theorem prM_map {E : α → Pd} {H : Hp} {k : κ} {y : α} {v : V} (hv : (E y).pr H v) : ∀ {xs : List (κ × α)} {us : List (Key × V)}, Paired (PrM E H) xs us → Paired (PrM E H) (xs.map fun p => if p.1 = k then (p.1, y) else p) (us.map fun kv => if kv.1 = Ky.ky k then (kv.1, v) else kv)
  | _, _, .nil => .nil
  | _, _, .cons (a := x) (b := u) r t => by
    rw [List.map_cons, List.map_cons]
    refine .cons ?_ (prM_map hv t)
    by_cases h : x.1 = k
    · rw [if_pos h, if_pos (by rw [r.1, h])]
      exact ⟨r.1, hv⟩
    · rw [if_neg h, if_neg (fun z => h (Ky.inj (by rw [← r.1, z])))]
      exact r
theorem prM_put {E : α → Pd} {H : Hp} {k : κ} {y : α} {v : V} (hv : (E y).pr H v) {xs : List (κ × α)} {us : List (Key × V)} (h : Paired (PrM E H) xs us) : Paired (PrM E H) (dput xs k y) (putK us (Ky.ky k) v) := by
  unfold dput putK
  rw [prM_any k h]
  split
  · exact prM_map hv h
  · exact paired_app h (.cons ⟨rfl, hv⟩ .nil)
theorem prM_del {E : α → Pd} {H : Hp} (k : κ) : ∀ {xs : List (κ × α)} {us : List (Key × V)}, Paired (PrM E H) xs us → Paired (PrM E H) (ddel xs k) (dropK us (Ky.ky k))
  | _, _, .nil => .nil
  | _, _, .cons (a := x) (b := u) r t => by
    have ih := prM_del k t
    unfold ddel dropK at ih ⊢
    rw [List.filter_cons, List.filter_cons]
    by_cases h : x.1 = k
    · rw [if_neg (by simp [h]), if_neg (by simp [r.1, h])]
      exact ih
    · rw [if_pos (by simp [h]), if_pos (by simp only [decide_eq_true_eq]; exact fun z => h (Ky.inj (by rw [← r.1, z])))]
      exact .cons r ih
theorem prM_keys {E : α → Pd} {H : Hp} : ∀ {xs : List (κ × α)} {us : List (Key × V)}, Paired (PrM E H) xs us → us.map (·.1) = xs.map fun p => Ky.ky p.1
  | _, _, .nil => rfl
  | _, _, .cons r t => by rw [List.map_cons, List.map_cons, prM_keys t, r.1]
theorem prM_keyP {E : α → Pd} {H H' : Hp} : ∀ {xs : List (κ × α)} {us : List (Key × V)}, Paired (PrM E H) xs us → Paired (fun (x : κ) u => (Ky.kp x).pr H' u) (xs.map Prod.fst) (us.map fun kv => kV kv.1)
  | _, _, .nil => .nil
  | _, _, .cons r t => by
    rw [List.map_cons, List.map_cons]
    refine .cons ?_ (prM_keyP t)
    rw [r.1]
    exact Ky.of _ _
end
section
variable {X : Cx} {W : List Addr} {F : Fm} {Γ : Gm} {Δ : Δs} {γ : Type} {κ α : Type} [DecidableEq κ] [Ky κ]
/-! ### dicts that are read: locked, or a cell of one's own -/
def RM (E : α → Pd) (xs : List (κ × α)) (H : Hp) (v : V) : Prop := ∃ a kvs, v = .ref a ∧ Rd H a (.dK kvs) ∧ xs.length ≤ sizeLine ∧ Paired (PrM E H) xs kvs
def RdM (Δ : Δs) (p : Pd) (E : α → Pd) (xs : List (κ × α)) : Prop := ∀ F H v, Hk F Δ H → p.pr H v → RM E xs H v
theorem rdMF {E : α → Pd} {xs : List (κ × α)} : RdM Δ (pM E xs) E xs := fun _ _ _ _ ⟨a, o, vs, e, h, z, p⟩ => ⟨a, vs, e, .inr ⟨o, h⟩, z, p⟩
theorem rdMO {E : α → Pd} {xs : List (κ × α)} {G : List Addr} {v : V} {prm : Bool} (j : Nat) (h : Δ[j]? = some ⟨G, v, oM E xs, prm⟩ := by rfl) : RdM Δ (pV v) E xs := fun F H w hk e => by
  have e : w = v := e
  subst e
  obtain ⟨p, vs, _, ev, hp, z, q⟩ := hk.del _ (cell_mem h)
  exact ⟨p, vs, ev, .inl hp, z, q⟩
/-- a new dict -/
theorem Ok.newM {σ : SS} {H : Hp} {p : Addr} {E : α → Pd} {xs : List (κ × α)} {kvs : List (Key × V)} (ok : Ok F Γ Δ σ H) (hp : H p = none) (z : xs.length ≤ sizeLine) (q : Paired (PrM E H) xs kvs) : Ok F Γ (⟨[p], .ref p, oM E xs, false⟩ :: Δ) σ (upd H p (.dK kvs)) ∧ Gr H (upd H p (.dK kvs)) := by
  have g : Gr H (upd H p (.dK kvs)) := Gr.new hp
  have ok' := ok.gr g
  refine ⟨⟨ok.hk.add g (List.nodup_cons.mpr ⟨List.not_mem_nil, List.nodup_nil⟩) (fun a ha => by rw [List.mem_singleton.mp ha]; exact hp) ⟨p, kvs, rfl, rfl, upd_same, z, prM_mono g.fzs q⟩, ok'.len, ok'.gam⟩, g⟩
section
variable {a b : Expr} {pos : Pos} {β1 β2 : Type} {T : Option γ} {k1 : β1 → Option γ} {Δ1 : β1 → Δs} {Δ2 : β1 → β2 → Δs} {E1 : β1 → Pd} {Ee : α → Pd} {xs : β1 → β2 → List (κ × α)} {j : β1 → β2 → κ}
/-- d[k] -/
theorem x_dget {k : (β1 × β2) × α → Option γ} (hu : X.A.units + 64 < cLine) (ha : PE X a (tE W F Γ Δ T k1 E1 Δ1)) (hb : ∀ b1, PE X b (tE W F Γ (Δ1 b1) (k1 b1) (fun b2 => (dget (xs b1 b2) (j b1 b2)).bind fun x => k ((b1, b2), x)) (fun b => Ky.kp (j b1 b)) (Δ2 b1)))
    (rd : ∀ b1 b2, RdM (Δ2 b1 b2) (E1 b1) Ee (xs b1 b2)) (hs : NoSl b := by exact fun _ _ => rfl) : PE X (.Subscript a b pos) (tE W F Γ Δ T k (fun b => Ee b.2) fun b => Δ2 b.1.1 b.1.2) :=
  x2p (r := fun x y H Q => ∃ a v, x = .ref a ∧ DGet H a y (some v) ∧ Q v H) (fun _ _ ha hb => pe_dget (by omega) ha hb hs) ha hb fun b1 b2 x σ v w H Q ok e hv hw q => by
    obtain ⟨p, kvs, ev, r, _, pr⟩ := rd b1 b2 F H v ok.hk hv
    rcases prM_get (j b1 b2) pr with ⟨e0, _⟩ | ⟨x', u, e1, e2, hu⟩
    · rw [e] at e0; cases e0
    · rw [e] at e1; cases e1
      exact ⟨p, u, ev, .inl ⟨kvs, Ky.ky (j b1 b2), r, Ky.is hw, e2.symm⟩, q u hu⟩
end
section
variable {a b : Expr} {pos : Pos} {β1 β2 : Type} {T : Option γ} {k1 : β1 → Option γ} {k : β1 × β2 → Option γ} {Δ1 : β1 → Δs} {Δ2 : β1 → β2 → Δs} {E2 : β1 → β2 → Pd} {Ee : α → Pd} {xs : β1 → β2 → List (κ × α)} {i : β1 → κ}
/-- k in d -/
theorem has_of {E : α → Pd} {H : Hp} {xs : List (κ × α)} {us : List (Key × V)} (k : κ) (p : Paired (PrM E H) xs us) : (valV us (Ky.ky k)).isSome = dhas xs k := by
  rw [dhas_get]
  rcases prM_get k p with ⟨e0, e1⟩ | ⟨x, v, e0, e1, _⟩ <;> rw [e0, e1] <;> rfl
theorem x_dinG {op : CmpOp} {c : Bool → Bool} (hp : ∀ ta tb, PE X a ta → PE X b tb → PC X op a b (fun σ H Q => ta σ H fun y H1 => tb σ H1 fun x H2 => ∃ a o, x = .ref a ∧ DGet H2 a y o ∧ Q (.bl (c o.isSome)) H2)) (hm : behindInMarks op b = false)
    (ha : PE X a (tE W F Γ Δ T k1 (fun b => Ky.kp (i b)) Δ1)) (hb : ∀ b1, PE X b (tE W F Γ (Δ1 b1) (k1 b1) (fun b2 => k (b1, b2)) (E2 b1) (Δ2 b1))) (rd : ∀ b1 b2, RdM (Δ2 b1 b2) (E2 b1 b2) Ee (xs b1 b2)) :
    PE X (.Compare a [op] [b] pos) (tE W F Γ Δ T k (fun b => pBl (c (dhas (xs b.1 b.2) (i b.1)))) fun b => Δ2 b.1 b.2) :=
  x2t (r := fun y x H Q => ∃ a o, x = .ref a ∧ DGet H a y o ∧ Q (.bl (c o.isSome)) H) (fun ta tb ha hb => pe_cmp (hp ta tb ha hb) hm) ha hb fun b1 b2 σ v w H Q ok hv hw q => by
    obtain ⟨p, kvs, ev, r, _, pr⟩ := rd b1 b2 F H w ok.hk hw
    refine ⟨p, valV kvs (Ky.ky (i b1)), ev, .inl ⟨kvs, _, r, Ky.is hv, rfl⟩, ?_⟩
    rw [has_of (i b1) pr]
    exact q _ rfl
theorem t_dinG {op : CmpOp} {c : Bool → Bool} (hp : ∀ ta tb, PE X a ta → PE X b tb → PC X op a b (fun σ H Q => ta σ H fun y H1 => tb σ H1 fun x H2 => ∃ a o, x = .ref a ∧ DGet H2 a y o ∧ Q (.bl (c o.isSome)) H2)) (hm : behindInMarks op b = false)
    (ha : PE X a (tE W F Γ Δ T k1 (fun b => Ky.kp (i b)) Δ1)) (hb : ∀ b1, PE X b (tE W F Γ (Δ1 b1) (k1 b1) (fun b2 => k (b1, b2)) (E2 b1) (Δ2 b1))) (rd : ∀ b1 b2, RdM (Δ2 b1 b2) (E2 b1 b2) Ee (xs b1 b2)) :
    PT X (.Compare a [op] [b] pos) (tTs W F Γ Δ T k (fun b => c (dhas (xs b.1 b.2) (i b.1))) fun b => Δ2 b.1 b.2) :=
  t2t (r := fun y x H Q => ∃ a o, x = .ref a ∧ DGet H a y o ∧ Q (.bl (c o.isSome)) H) (fun ta tb ha hb => (pt_cmp (hp ta tb ha hb) hm).wk fun σ H Q h => h) ha hb fun b1 b2 σ v w H Q ok hv hw q => by
    obtain ⟨p, kvs, ev, r, _, pr⟩ := rd b1 b2 F H w ok.hk hw
    refine ⟨p, valV kvs (Ky.ky (i b1)), ev, .inl ⟨kvs, _, r, Ky.is hv, rfl⟩, ?_⟩
    rw [has_of (i b1) pr]
    exact q _ rfl
theorem x_din (hu : X.A.units + 64 < cLine) (ha : PE X a (tE W F Γ Δ T k1 (fun b => Ky.kp (i b)) Δ1)) (hb : ∀ b1, PE X b (tE W F Γ (Δ1 b1) (k1 b1) (fun b2 => k (b1, b2)) (E2 b1) (Δ2 b1))) (rd : ∀ b1 b2, RdM (Δ2 b1 b2) (E2 b1 b2) Ee (xs b1 b2)) (hm : behindInMarks .In b = false := by rfl) :
    PE X (.Compare a [.In] [b] pos) (tE W F Γ Δ T k (fun b => pBl (dhas (xs b.1 b.2) (i b.1))) fun b => Δ2 b.1 b.2) := x_dinG (c := id) (fun _ _ ha hb => pc_din (by omega) ha hb) hm ha hb rd
theorem x_dnin (hu : X.A.units + 64 < cLine) (ha : PE X a (tE W F Γ Δ T k1 (fun b => Ky.kp (i b)) Δ1)) (hb : ∀ b1, PE X b (tE W F Γ (Δ1 b1) (k1 b1) (fun b2 => k (b1, b2)) (E2 b1) (Δ2 b1))) (rd : ∀ b1 b2, RdM (Δ2 b1 b2) (E2 b1 b2) Ee (xs b1 b2)) (hm : behindInMarks .NotIn b = false := by rfl) :
    PE X (.Compare a [.NotIn] [b] pos) (tE W F Γ Δ T k (fun b => pBl (!dhas (xs b.1 b.2) (i b.1))) fun b => Δ2 b.1 b.2) := x_dinG (c := fun x => !x) (fun _ _ ha hb => pc_dnotin (by omega) ha hb) hm ha hb rd
theorem t_din (hu : X.A.units + 64 < cLine) (ha : PE X a (tE W F Γ Δ T k1 (fun b => Ky.kp (i b)) Δ1)) (hb : ∀ b1, PE X b (tE W F Γ (Δ1 b1) (k1 b1) (fun b2 => k (b1, b2)) (E2 b1) (Δ2 b1))) (rd : ∀ b1 b2, RdM (Δ2 b1 b2) (E2 b1 b2) Ee (xs b1 b2)) (hm : behindInMarks .In b = false := by rfl) :
    PT X (.Compare a [.In] [b] pos) (tTs W F Γ Δ T k (fun b => dhas (xs b.1 b.2) (i b.1)) fun b => Δ2 b.1 b.2) := t_dinG (c := id) (fun _ _ ha hb => pc_din (by omega) ha hb) hm ha hb rd
theorem t_dnin (hu : X.A.units + 64 < cLine) (ha : PE X a (tE W F Γ Δ T k1 (fun b => Ky.kp (i b)) Δ1)) (hb : ∀ b1, PE X b (tE W F Γ (Δ1 b1) (k1 b1) (fun b2 => k (b1, b2)) (E2 b1) (Δ2 b1))) (rd : ∀ b1 b2, RdM (Δ2 b1 b2) (E2 b1 b2) Ee (xs b1 b2)) (hm : behindInMarks .NotIn b = false := by rfl) :
    PT X (.Compare a [.NotIn] [b] pos) (tTs W F Γ Δ T k (fun b => !dhas (xs b.1 b.2) (i b.1)) fun b => Δ2 b.1 b.2) := t_dinG (c := fun x => !x) (fun _ _ ha hb => pc_dnotin (by omega) ha hb) hm ha hb rd
end
end
end L3
end
section
set_option Elab.async false
set_option linter.all false
set_option maxRecDepth 100000
set_option maxHeartbeats 4000000
namespace L3
open PySem PySem.Spec PyProof.Rows L2
/-! ### texts in order -/
theorem lt_irr : ∀ a : List Nat, ltCps a a = false
  | [] => rfl
  | x :: r => by simp [ltCps, lt_irr r]
theorem lt_tri : ∀ {a b : List Nat}, ltCps a b = false → ltCps b a = false → a = b
  | [], [], _, _ => rfl
  | [], _ :: _, h, _ => by simp [ltCps] at h
  | _ :: _, [], _, h => by simp [ltCps] at h
  | x :: r, y :: t, h1, h2 => by
    simp only [ltCps, Bool.or_eq_false_iff, decide_eq_false_iff_not, Nat.not_lt] at h1 h2
    have e : x = y := by omega
    subst e
    simp only [beq_self_eq_true, Bool.true_and] at h1 h2
    rw [lt_tri h1.2 h2.2]
theorem le_tr : ∀ {a b c : List Nat}, ltCps b a = false → ltCps c b = false → ltCps c a = false
  | [], _, [], _, _ => rfl
  | [], b, z :: c, h1, h2 => by simp [ltCps]
  | x :: a, [], _, h1, _ => by simp [ltCps] at h1
  | x :: a, y :: b, [], _, h2 => by simp [ltCps] at h2
  | x :: a, y :: b, z :: c, h1, h2 => by
    simp only [ltCps, Bool.or_eq_false_iff, decide_eq_false_iff_not, Nat.not_lt, Bool.and_eq_false_imp, beq_iff_eq] at h1 h2 ⊢
    refine ⟨by omega, fun e => ?_⟩
    have e1 : y = x := by omega
    have e2 : z = y := by omega
    exact le_tr (h1.2 e1) (h2.2 e2)
def leS (x y : Str) : Bool := !ltCps y.cps.toList x.cps.toList
theorem leS_tr {x y z : Str} (h1 : leS x y = true) (h2 : leS y z = true) : leS x z = true := by
  unfold leS at *
  simp only [Bool.not_eq_true'] at *
  exact le_tr h1 h2
theorem leS_as {x y : Str} (h1 : leS x y = true) (h2 : leS y x = true) : x = y := by
  unfold leS at *
  simp only [Bool.not_eq_true'] at *
  exact PyProof.Rows.ext_toList (lt_tri h2 h1)
theorem ltCps_as : ∀ {a b : List Nat}, ltCps a b = true → ltCps b a = false
  | [], [], h => by simp [ltCps] at h
  | [], _ :: _, _ => rfl
  | _ :: _, [], h => by simp [ltCps] at h
  | x :: r, y :: t, h => by
    simp only [ltCps, Bool.or_eq_true, decide_eq_true_eq, Bool.and_eq_true, beq_iff_eq] at h
    simp only [ltCps, Bool.or_eq_false_iff, decide_eq_false_iff_not, Nat.not_lt, Bool.and_eq_false_imp, beq_iff_eq]
    rcases h with h | ⟨e, h⟩
    · exact ⟨by omega, fun e => by omega⟩
    · exact ⟨by omega, fun _ => ltCps_as h⟩
theorem leS_tot (x y : Str) : (leS x y || leS y x) = true := by
  unfold leS
  cases h : ltCps y.cps.toList x.cps.toList with
  | false => rfl
  | true => rw [ltCps_as h]; rfl
def srtS (xs : List Str) : List Str := xs.mergeSort leS
theorem srtS_perm (xs : List Str) : (srtS xs).Perm xs := List.mergeSort_perm _ _
theorem srtS_le (xs : List Str) : (srtS xs).Pairwise fun a b => leS a b = true := List.pairwise_mergeSort (le := leS) (fun _ _ _ h1 h2 => leS_tr h1 h2) leS_tot xs
theorem sortedS_eq : ∀ {xs ys : List Str}, xs.Perm ys → (xs.Pairwise fun a b => leS a b = true) → (ys.Pairwise fun a b => leS a b = true) → xs = ys
  | [], ys, p, _, _ => (List.nil_perm.mp p).symm ▸ rfl
  | x :: xs, [], p, _, _ => (List.perm_nil.mp p)
  | x :: xs, y :: ys, p, hx, hy => by
    have rf : ∀ z : Str, leS z z = true := fun z => by unfold leS; rw [lt_irr]; rfl
    have e : x = y := by
      have m1 : x ∈ y :: ys := p.mem_iff.mp List.mem_cons_self
      have m2 : y ∈ x :: xs := p.mem_iff.mpr List.mem_cons_self
      have l1 : leS y x = true := by
        rcases List.mem_cons.mp m1 with h | h
        · rw [h]; exact rf _
        · exact (List.pairwise_cons.mp hy).1 x h
      have l2 : leS x y = true := by
        rcases List.mem_cons.mp m2 with h | h
        · rw [h]; exact rf _
        · exact (List.pairwise_cons.mp hx).1 y h
      exact leS_as l2 l1
    subst e
    rw [sortedS_eq (List.Perm.cons_inv p) (List.pairwise_cons.mp hx).2 (List.pairwise_cons.mp hy).2]
theorem rising_le : ∀ {xs : List Str} {p : Str}, risingS p xs = true → ∀ x ∈ xs, leS p x = true
  | [], _, _, _, h => by simp at h
  | y :: ys, p, h, x, hx => by
    obtain ⟨h1, h2⟩ := Bool.and_eq_true_iff.mp (show (!ltCps y.cps.toList p.cps.toList && risingS y ys) = true from h)
    rcases List.mem_cons.mp hx with e | hx
    · rw [e]; exact h1
    · exact leS_tr (y := y) h1 (rising_le h2 x hx)
theorem rising_pw : ∀ {xs : List Str} {p : Str}, risingS p xs = true → (p :: xs).Pairwise fun a b => leS a b = true
  | [], p, _ => List.pairwise_singleton _ _
  | y :: ys, p, h => by
    obtain ⟨h1, h2⟩ := Bool.and_eq_true_iff.mp (show (!ltCps y.cps.toList p.cps.toList && risingS y ys) = true from h)
    exact List.pairwise_cons.mpr ⟨rising_le h, rising_pw h2⟩
theorem srtS_uniq {xs ys : List Str} (p : ys.Perm xs) (h : sortedS ys = true) : ys = srtS xs := by
  refine sortedS_eq (p.trans (srtS_perm xs).symm) ?_ (srtS_le xs)
  cases ys with
  | nil => exact .nil
  | cons y ys => exact rising_pw h
section
variable {X : Cx} {W : List Addr} {F : Fm} {Γ : Gm} {Δ : Δs} {γ : Type} {κ α : Type} [DecidableEq κ] [Ky κ]
theorem call_lenM : CallR X (.builtin "len") (fun xs H Q => ∃ a kvs, xs = [V.ref a] ∧ Rd H a (.dK kvs) ∧ Q (.int kvs.length) H) := by
  intro pins s σ H xs us Q I r h
  obtain ⟨a, kvs, rfl, ha, q⟩ := h
  obtain ⟨u, rfl, ru⟩ := vals1 r
  cases ru
  exact d_len I ha fun t s' I' => ⟨.int kvs.length, H, I', ⟨t, rfl⟩, q⟩
section
variable {e a : Expr} {r : V → Hp → VK → Prop} {β : Type} {T : Option γ} {E1 : β → Pd} {Δ1 : β → Δs}
theorem x1m {k : β → Option γ} {Ee : α → Pd} {ys : β → List (κ × α)} (h1 : Un1 X e a r) (ha : PE X a (tE W F Γ Δ T k E1 Δ1))
    (hv : ∀ b σ v H Q, Ok F Γ (Δ1 b) σ H → (E1 b).pr H v → (∀ p vs, H p = none → (ys b).length ≤ sizeLine → Paired (PrM Ee H) (ys b) vs → Q (.ref p) (upd H p (.dK vs))) → r v H Q) : PE X e (tO W F Γ Δ T k (fun b => oM Ee (ys b)) Δ1) :=
  (h1 _ ha).wk fun σ H Q ⟨ok, g, e, q⟩ => ⟨ok, g, e, fun b v H' kb f ok' hp => hv b σ v H' Q ok' hp fun p vs np z pr => by
    obtain ⟨o2, f2⟩ := ok'.newM np z pr
    exact q b _ _ _ kb (f.trans f2.st) (fun a ha => by rw [List.mem_singleton.mp ha]; exact f.back np) o2⟩
end
section
variable {a : Expr} {pos p : Pos} {β : Type} {T : Option γ} {Δ1 : β → Δs} {E1 : β → Pd} {Ee : α → Pd} {xs : β → List (κ × α)} {k : β → Option γ}
/-- len(d) -/
theorem x_lenM (hm : X.mg "len" = none) (ha : PE X a (tE W F Γ Δ T k E1 Δ1)) (rd : ∀ b, RdM (Δ1 b) (E1 b) Ee (xs b)) (hg : Gl X "len" := by rfl) (hs : starEach [a] X.env = (false, eval a X.env) :: starEach [] X.env := by rfl) : PE X (.Call (.Name "len" p) [a] [] pos) (tE W F Γ Δ T k (fun b => pInt ((xs b).length : Int)) Δ1) :=
  x1t (u_callB call_lenM hg hm PySem.boot_len (by decide) (by decide) hs) ha fun b σ v H Q ok hv q => by
    obtain ⟨p, vs, ev, sq, _, pr⟩ := rd b F H v ok.hk hv
    rw [ev]
    exact ⟨p, vs, rfl, sq, by rw [← paired_len pr]; exact q _ rfl⟩
/-- dict(d) -/
theorem x_dictD (hm : X.mg "dict" = none) (ha : PE X a (tE W F Γ Δ T k E1 Δ1)) (rd : ∀ b, RdM (Δ1 b) (E1 b) Ee (xs b)) (hg : Gl X "dict" := by rfl) (hs : starEach [a] X.env = (false, eval a X.env) :: starEach [] X.env := by rfl) : PE X (.Call (.Name "dict" p) [a] [] pos) (tO W F Γ Δ T k (fun b => oM Ee (xs b)) Δ1) :=
  x1m (u_callTy call_dictD hg hm (by decide +kernel) (by decide) (by decide) hs) ha fun b σ v H Q ok hv q => by
    obtain ⟨p, vs, ev, sq, z, pr⟩ := rd b F H v ok.hk hv
    rw [ev]
    exact ⟨p, vs, rfl, sq, fun l hl => q l vs hl z pr⟩
/-- list(d) -/
theorem x_listD (hm : X.mg "list" = none) (ha : PE X a (tE W F Γ Δ T k E1 Δ1)) (rd : ∀ b, RdM (Δ1 b) (E1 b) Ee (xs b)) (hg : Gl X "list" := by rfl) (hs : starEach [a] X.env = (false, eval a X.env) :: starEach [] X.env := by rfl) (hc : X.calm = true := by rfl) : PE X (.Call (.Name "list" p) [a] [] pos) (tO W F Γ Δ T k (fun b => oL Ky.kp ((xs b).map Prod.fst)) Δ1) :=
  x1n (u_callTy (call_listD hc) hg hm (by decide +kernel) (by decide) (by decide) hs) ha fun b σ v H Q ok hv q => by
    obtain ⟨p, vs, ev, sq, z, pr⟩ := rd b F H v ok.hk hv
    rw [ev]
    exact ⟨p, vs, rfl, sq, fun l hl => q l _ hl (by rw [List.length_map]; exact z) (prM_keyP pr)⟩
end
/-- sorted(d), texts as keys -/
theorem x_sortedD {a : Expr} {pos p : Pos} {β : Type} {T : Option γ} {Δ1 : β → Δs} {E1 : β → Pd} {Ee : α → Pd} {xs : β → List (Str × α)} {k : β → Option γ} (hm : X.mg "sorted" = none) (ha : PE X a (tE W F Γ Δ T (fun b => grd ((xs b).length < 64) (k b)) E1 Δ1)) (rd : ∀ b, RdM (Δ1 b) (E1 b) Ee (xs b)) (hg : Gl X "sorted" := by rfl) (hs : starEach [a] X.env = (false, eval a X.env) :: starEach [] X.env := by rfl) (hc : X.calm = true := by rfl) :
    PE X (.Call (.Name "sorted" p) [a] [] pos) (tO W F Γ Δ T k (fun b => oL pStr (srtS ((xs b).map Prod.fst))) Δ1) :=
  ((u_callB (call_sortedD hc) hg hm (by decide +kernel) (by decide) (by decide) hs) _ ha).wk fun σ H Q ⟨ok, g, e, q⟩ => ⟨ok, g, e, fun b v H1 kb f ok1 hv => by
    obtain ⟨c, kb⟩ := grd_some kb
    obtain ⟨p, vs, ev, sq, z, pr⟩ := rd b F H1 v ok1.hk hv
    rw [ev]
    refine ⟨p, vs, (xs b).map Prod.fst, rfl, sq, by rw [prM_keys pr, List.map_map]; rfl, by rw [List.length_map]; exact c, fun ys l pm so hl => ?_⟩
    have e := srtS_uniq pm so
    subst e
    obtain ⟨o2, f2⟩ := ok1.newL hl (E := pStr) (xs := srtS ((xs b).map Prod.fst)) (by rw [(srtS_perm _).length_eq, List.length_map]; exact z) (strs_paired _)
    exact q b _ _ _ kb (f.trans f2.st) (fun a ha => by rw [List.mem_singleton.mp ha]; exact f.back hl) o2⟩
/-- {} -/
theorem x_dict0 {pos : Pos} {k : Unit → Option γ} (Ee : α → Pd) : PE X (.Dict [] [] pos) (tO W F Γ Δ (k ()) k (fun _ => oM (κ := κ) Ee []) fun _ => Δ) :=
  pe_dnewK.wk fun σ H Q ⟨ok, g, e, q⟩ p np => by
    obtain ⟨o2, f2⟩ := ok.newM (E := Ee) (xs := ([] : List (κ × α))) np (Nat.zero_le _) .nil
    exact q () _ _ _ e f2.st (fun a ha => by rw [List.mem_singleton.mp ha]; exact np) o2
theorem y_dict0 {pos : Pos} {T : Option γ} (Ee : α → Pd) : PE X (.Dict [] [] pos) (tO W F Γ Δ T (fun _ : Unit => T) (fun _ => oM (κ := κ) Ee []) fun _ => Δ) := x_dict0 (k := fun _ => T) Ee
/-- for k in d -/
theorem i_mkeys {tg l : Expr} {β : Type} {T : Option γ} {k : β → Option γ} {Ex : α → Pd} {xs : β → List (κ × α)} {Δ' : β → Δs} (he : PE X l (tE W F Γ Δ T k (fun b => pM Ex (xs b)) Δ')) : PI X tg l (tI W F Γ Δ T k (Ky.kp (κ := κ)) (fun b => (xs b).map Prod.fst) Δ') :=
  (pi_keys he).wk fun σ H R ⟨ok, g, e, q⟩ => ⟨ok, g, e, fun b v H' kb f ok' ⟨a, o, kvs, ev, h, z, p⟩ => ⟨a, o, ev, .inl ⟨kvs, h, q b _ H' kb f ok' (by rw [List.length_map]; exact z) fun H2 f2 i => by
    have h2 : H2 a = some (.frz o (.dK kvs)) := f2 _ _ trivial h
    rw [List.length_map]
    refine ⟨fun hi => ⟨h2, by rw [← paired_len p]; exact hi⟩, fun hi => ⟨h2, by rw [← paired_len p]; exact hi⟩, fun x v H3 hx hy => ?_⟩
    obtain ⟨e3, ky, vv, ek, ev⟩ := hy
    rw [List.getElem?_map] at hx
    cases hr : (xs b)[i]? with
    | none => rw [hr] at hx; cases hx
    | some m =>
      rw [hr] at hx
      have hx : m.1 = x := by simpa using hx
      obtain ⟨u, hu, pu, _⟩ := paired_at p hr
      rw [ek] at hu
      cases hu
      subst e3
      refine ⟨Gr.refl _, ?_⟩
      have pu : ky = Ky.ky m.1 := pu
      rw [ev, pu, hx]
      exact Ky.of _ _⟩⟩⟩
theorem tyM {E : α → Pd} {xs : List (κ × α)} : TyP Δ (pM E xs) "dict" := fun _ _ _ _ _ ⟨_, _, _, e, h, _⟩ => by rw [e]; exact .fDict h
theorem tyOM {E : α → Pd} {xs : List (κ × α)} {G : List Addr} {v : V} {prm : Bool} (j : Nat) (h : Δ[j]? = some ⟨G, v, oM E xs, prm⟩ := by rfl) : TyP Δ (pV v) "dict" := fun K F H w hk e => by
  have e : w = v := e
  subst e
  obtain ⟨p, vs, _, ev, hp, _⟩ := hk.del _ (cell_mem h)
  have ev : w = .ref p := ev
  rw [ev]
  exact .base (.dK hp)
/-! ### stores -/
section
variable {N : Fn γ} {rest : List Stmt}
/-- d[k] = e -/
theorem s_dput {o i e : Expr} {pos pos' : Pos} {β0 β1 β2 : Type} {T : Option γ} {k0 : β0 → Option γ} {k1 : β0 → β1 → Option γ} {k : (β0 × β1) × β2 → Option γ} {Δ0 : β0 → Δs} {Δ1 : β0 → β1 → Δs} {Δ2 : β0 → β1 → β2 → Δs} {Ee : α → Pd} {y : β0 → α} {n : β0 → β1 → β2 → κ} {xs : β0 → β1 → β2 → List (κ × α)} {G : List Addr} {v : V} {prm : Bool} (j : Nat) (hu : X.A.units + 64 < cLine)
    (he : PE X e (tE (cellsOf Δ) F Γ Δ T k0 (fun b => Ee (y b)) Δ0)) (ho : ∀ b0, PE X o (tE (cellsOf Δ) F Γ (Δ0 b0) (k0 b0) (k1 b0) (fun _ => pV v) (Δ1 b0)))
    (hi : ∀ b0 b1, PE X i (tE (cellsOf Δ) F Γ (Δ1 b0 b1) (k1 b0 b1) (fun b2 => grd ((xs b0 b1 b2).length < sizeLine) (k ((b0, b1), b2))) (fun b2 => Ky.kp (n b0 b1 b2)) (Δ2 b0 b1)))
    (hj : ∀ b0 b1 b2, (Δ2 b0 b1 b2)[j]? = some ⟨G, v, oM Ee (xs b0 b1 b2), prm⟩)
    (hr : ∀ b : (β0 × β1) × β2, PSs X rest (tS F Γ ((Δ2 b.1.1 b.1.2 b.2).set j ⟨G, v, oM Ee (dput (xs b.1.1 b.1.2 b.2) (n b.1.1 b.1.2 b.2) (y b.1.1)), prm⟩) N (k b)))
    (hs : swapsWith e (some (.Subscript o i pos')) pos.line X.env = pure false := by rfl) :
    PSs X (.Assign [.Subscript o i pos'] e pos :: rest) (tS F Γ Δ N T) :=
  (pss_cons (ps_dput (by omega) (pe_ex ho) (pe_ex fun b0 => pe_ex fun b1 => hi b0 b1) he hs) (pss_ex hr)).wk fun D σ H ⟨ok, g, e, f⟩ => ⟨ok, g, e, fun b0 u H0 kb0 f0 ok0 hu => ⟨b0, ok0, g, kb0, fun b1 w H1 kb1 f1 ok1 hw => ⟨b0, b1, ok1, g, kb1, fun b2 z H2 kb2 f2 ok2 hz => by
    obtain ⟨c, km⟩ := grd_some kb2
    have hw : w = v := hw
    subst hw
    have hz := Ky.is hz
    obtain ⟨p, vs, eG, ev, hp, zz, pr⟩ := ok2.hk.del _ (cell_mem (hj b0 b1 b2))
    have hu2 : (Ee (y b0)).pr H2 u := (Ee (y b0)).mono (f1.fz.trans f2.fz) hu
    have fzm : Fzs H2 (upd H2 p (.dK (putK vs (Ky.ky (n b0 b1 b2)) u))) := Fzs.mut hp fun z => z
    have eG : G = [p] := eG
    refine ⟨p, _, ev, .inl ⟨vs, Ky.ky (n b0 b1 b2), hp, hz, by rw [← paired_len pr]; exact c, rfl⟩, ((b0, b1), b2), ?_⟩
    obtain ⟨ok3, f3⟩ := ok2.turn (H' := upd H2 p (.dK (putK vs (Ky.ky (n b0 b1 b2)) u))) (d' := oM Ee (dput (xs b0 b1 b2) (n b0 b1 b2) (y b0))) (hj b0 b1 b2) (fun a o na e => by
      rw [upd_ne fun q => na (by show a ∈ G; rw [eG, q]; exact List.mem_singleton.mpr rfl)]
      exact e) ⟨p, _, eG, ev, upd_same, Nat.le_trans (dput_len _ _ _) c, prM_put ((Ee _).mono fzm hu2) (prM_mono fzm pr)⟩
    exact ⟨ok3, g, km, N.mono f (((f0.fz.trans f1.fz).trans f2.fz).trans f3)⟩⟩⟩⟩
/-- del d[k] -/
theorem s_ddel {o i : Expr} {pos pos' : Pos} {β1 β2 : Type} {T : Option γ} {k1 : β1 → Option γ} {k : β1 × β2 → Option γ} {Δ1 : β1 → Δs} {Δ2 : β1 → β2 → Δs} {Ee : α → Pd} {n : β1 → β2 → κ} {xs : β1 → β2 → List (κ × α)} {G : List Addr} {v : V} {prm : Bool} (j : Nat)
    (ho : PE X o (tE (cellsOf Δ) F Γ Δ T k1 (fun _ => pV v) Δ1))
    (hi : ∀ b1, PE X i (tE (cellsOf Δ) F Γ (Δ1 b1) (k1 b1) (fun b2 => grd (dhas (xs b1 b2) (n b1 b2) = true) (k (b1, b2))) (fun b2 => Ky.kp (n b1 b2)) (Δ2 b1)))
    (hj : ∀ b1 b2, (Δ2 b1 b2)[j]? = some ⟨G, v, oM Ee (xs b1 b2), prm⟩)
    (hr : ∀ b : β1 × β2, PSs X rest (tS F Γ ((Δ2 b.1 b.2).set j ⟨G, v, oM Ee (ddel (xs b.1 b.2) (n b.1 b.2)), prm⟩) N (k b))) :
    PSs X (.Delete [.Subscript o i pos'] pos :: rest) (tS F Γ Δ N T) :=
  (pss_cons (ps_ddel ho (pe_ex fun b1 => hi b1)) (pss_ex hr)).wk fun D σ H ⟨ok, g, e, f⟩ => ⟨ok, g, e, fun b1 w H1 kb1 f1 ok1 hw => ⟨b1, ok1, g, kb1, fun b2 z H2 kb2 f2 ok2 hz => by
    obtain ⟨c, km⟩ := grd_some kb2
    have hw : w = v := hw
    subst hw
    have hz := Ky.is hz
    obtain ⟨p, vs, eG, ev, hp, zz, pr⟩ := ok2.hk.del _ (cell_mem (hj b1 b2))
    have fzm : Fzs H2 (upd H2 p (.dK (dropK vs (Ky.ky (n b1 b2))))) := Fzs.mut hp fun z => z
    have eG : G = [p] := eG
    refine ⟨p, vs, Ky.ky (n b1 b2), ev, hp, hz, by rw [has_of _ pr]; exact c, (b1, b2), ?_⟩
    obtain ⟨ok3, f3⟩ := ok2.turn (H' := upd H2 p (.dK (dropK vs (Ky.ky (n b1 b2))))) (d' := oM Ee (ddel (xs b1 b2) (n b1 b2))) (hj b1 b2) (fun a o na e => by
      rw [upd_ne fun q => na (by show a ∈ G; rw [eG, q]; exact List.mem_singleton.mpr rfl)]
      exact e) ⟨p, _, eG, ev, upd_same, Nat.le_trans (ddel_len _ _) zz, prM_del _ (prM_mono fzm pr)⟩
    exact ⟨ok3, g, km, N.mono f ((f1.fz.trans f2.fz).trans f3)⟩⟩⟩
end
/-- d.clear() -/
theorem x_dclear {o : Expr} {apos cpos : Pos} {β1 : Type} {T : Option γ} {k : β1 → Option γ} {Δ1 : β1 → Δs} {Ee : α → Pd} {xs : β1 → List (κ × α)} {G : List Addr} {v : V} {prm : Bool} (j : Nat) (ho : PE X o (tE W F Γ Δ T k (fun _ => pV v) Δ1)) (hj : ∀ b1, (Δ1 b1)[j]? = some ⟨G, v, oM Ee (xs b1), prm⟩) (hW : ∀ a ∈ G, a ∈ W)
    (hbase : attributeBase o "clear" X.env (eval o X.env) = eval o X.env := by rfl) (hline : (apos.endLine == cpos.line) = true := by rfl) :
    PE X (.Call (.Attribute o "clear" apos) [] [] cpos) (tE W F Γ Δ T k (fun _ => pNon) fun b => (Δ1 b).set j ⟨G, v, oM (κ := κ) Ee [], prm⟩) :=
  (pe_dclear ho hbase hline).wk fun σ H Q ⟨ok, g, e, q⟩ => ⟨ok, g, e, fun b1 u H1 kb1 f1 ok1 hu => by
    have hu : u = v := hu
    subst hu
    obtain ⟨p, vs, eG, ev, hp, zz, pr⟩ := ok1.hk.del _ (cell_mem (hj b1))
    have eG : G = [p] := eG
    have ev : u = .ref p := ev
    have fzm : Fzs H1 (upd H1 p (.dK [])) := Fzs.mut hp fun z => z
    obtain ⟨ok3, f3⟩ := ok1.turn (H' := upd H1 p (.dK [])) (d' := oM (κ := κ) Ee []) (hj b1) (fun a o na e => by
      rw [upd_ne fun q => na (by show a ∈ G; rw [eG, q]; exact List.mem_singleton.mpr rfl)]
      exact e) ⟨p, _, eG, ev, upd_same, Nat.zero_le _, .nil⟩
    refine ⟨by rw [ev]; exact .inr (.inr (.inl ⟨rfl, .inl ⟨vs, hp⟩⟩)), p, vs, ev, rfl, hp, q b1 .non _ kb1 (f1.trans ⟨f3, fun a o na e => ?_, upd_dom _ _⟩) ok3 rfl⟩
    rw [upd_ne fun z => na (hW a (by rw [eG, z]; exact List.mem_singleton.mpr rfl))]
    exact e⟩
end
end L3
end
section
set_option Elab.async false
set_option linter.all false
set_option maxRecDepth 100000
set_option maxHeartbeats 4000000
namespace L3
open PySem PySem.Spec PyProof.Rows L2
section
variable {κ α : Type} [DecidableEq κ] [DecidableEq α]
/-- two dicts have the same pairs -/
def deq (c d : List (κ × α)) : Bool := (c.length == d.length) && c.all fun p => decide (dget d p.1 = some p.2)
end
section
variable {X : Cx} {W : List Addr} {F : Fm} {Γ : Gm} {Δ : Δs} {γ : Type} {κ α : Type} [DecidableEq κ] [Ky κ] [DecidableEq α]
theorem deq_hits {E : α → Pd} (d : Dt E) (hd : d.dep < 60) {A : Around} {pins : List (Addr × Obj)} {σ : SS} {H : Hp} {s : Shared} (I : Inv X pins σ H s) (hu : A.in1.units + 64 < cLine) {ys : List (κ × α)} {ls : List (Key × V)} {vb : List (Key × Value)} (py : Paired (PrM E H) ys ls) (rb : KV ls vb) :
    ∀ {xs : List (κ × α)} {ks : List (Key × V)} {va : List (Key × Value)}, Paired (PrM E H) xs ks → KV ks va → PySem.W.KeqHits A.in1 s vb va (xs.all fun p => decide (dget ys p.1 = some p.2))
  | [], [], [], .nil, .nil => .nil
  | x :: xs, k :: ks, (key, v) :: va, .cons r t, .cons q u => by
    have ih := deq_hits d hd I hu py rb t u
    have ek : k.1 = key := q.1
    rw [List.all_cons]
    have rr : RelO (valV ls k.1) (valueAt vb k.1) := rb.val k.1
    rw [r.1] at rr
    rcases prM_get x.1 py with ⟨e0, e1⟩ | ⟨y, w, e0, e1, hw⟩
    · rw [e0, decide_eq_false (by simp), Bool.false_and]
      rw [e1] at rr
      refine .miss ?_
      rw [← ek, r.1]
      cases hv : valueAt vb (Ky.ky x.1) with
      | none => rfl
      | some z => rw [hv] at rr; exact rr.elim
    · rw [e1] at rr
      obtain ⟨z, hz, rz⟩ := rr.some_of
      have key_eq : valueAt vb key = some z := by rw [← ek, r.1]; exact hz
      obtain ⟨as, r1⟩ := Dp.reads I (d.toD x.2) k.2 v (d.dp r.2) q.2
      obtain ⟨bs, r2⟩ := Dp.reads I (d.toD y) w z (d.dp hw) rz
      have sh : ∀ a : α, SeqAt.shaped (d.toD a) = true := fun a => by
        show ((d.toD a).canLay0 && decide ((d.toD a).depth ≤ 64)) = true
        rw [d.can, decide_eq_true (by have := d.deep a; omega)]; rfl
      have eq := PySem.W.keq_at (A := A) r1 r2 (sh _) (sh _) hu
      rw [d.eq] at eq
      have e2 : decide (dget ys x.1 = some x.2) = decide (x.2 = y) := by
        rw [e0]
        by_cases h : x.2 = y
        · simp [h]
        · have h2 : ¬ y = x.2 := fun z => h z.symm
          simp [h, h2]
      rw [e2]
      exact .hit key_eq eq ih
/-- d == e -/
def rDeq (d : Bool → Bool) : R2 := fun x y H Q => ∃ (κ α : Type) (_ : DecidableEq κ) (_ : Ky κ) (_ : DecidableEq α) (E : α → Pd) (t : Dt E) (_ : t.dep < 60) (xs ys : List (κ × α)), RM E xs H x ∧ RM E ys H y ∧ Q (.bl (d (deq xs ys))) H
theorem op_deq (hu : X.A.units + 66 < cLine) : OpR X (compareOp .Eq) (rDeq id) := by
  intro pins s σ H x y v u Q I rx ry h
  obtain ⟨κ, α, i1, i2, i3, E, t, ht, xs, ys, ⟨a, ks, rfl, ra, _, pa⟩, ⟨b, ls, rfl, rb, _, pb⟩, q⟩ := h
  obtain rfl : v = Value.ref a := rx
  obtain rfl : u = Value.ref b := ry
  obtain ⟨_, ya, va, rva, da⟩ := dk_rd I.hok ra
  obtain ⟨_, yb, vb, rvb, db⟩ := dk_rd I.hok rb
  refine PySem.W.keq_eq (knd := mixKind X.prog X.w) ya yb da db (by omega) (fun _ => deq_hits t ht I (by show X.A.units + 1 + 64 < cLine; omega) pb rvb pa rva) ⟨.bl (deq xs ys), H, I, ?_, q⟩
  show Value.bool _ = Value.bool _
  unfold deq
  rw [← rva.length, ← rvb.length, ← paired_len pa, ← paired_len pb]
theorem op_dne (hu : X.A.units + 66 < cLine) : OpR X (compareOp .NotEq) (rDeq (fun x => !x)) := by
  intro pins s σ H x y v u Q I rx ry h
  obtain ⟨κ, α, i1, i2, i3, E, t, ht, xs, ys, ⟨a, ks, rfl, ra, _, pa⟩, ⟨b, ls, rfl, rb, _, pb⟩, q⟩ := h
  obtain rfl : v = Value.ref a := rx
  obtain rfl : u = Value.ref b := ry
  obtain ⟨_, ya, va, rva, da⟩ := dk_rd I.hok ra
  obtain ⟨_, yb, vb, rvb, db⟩ := dk_rd I.hok rb
  refine PySem.W.keq_ne (knd := mixKind X.prog X.w) ya yb da db (by omega) (fun _ => deq_hits t ht I (by show X.A.units + 1 + 64 < cLine; omega) pb rvb pa rva) ⟨.bl (!deq xs ys), H, I, ?_, q⟩
  show Value.bool _ = Value.bool _
  unfold deq
  rw [← rva.length, ← rvb.length, ← paired_len pa, ← paired_len pb]
theorem room66 {k : Nat} {A : Around} (r : Room k A) : A.units + 66 < cLine := by have := r.un; omega
section
variable {a b : Expr} {pos : Pos} {β1 β2 : Type} {T : Option γ} {k1 : β1 → Option γ} {k : β1 × β2 → Option γ} {Δ1 : β1 → Δs} {Δ2 : β1 → β2 → Δs} {Ee : α → Pd} {E1 : β1 → Pd} {E2 : β1 → β2 → Pd} {xs ys : β1 → β2 → List (κ × α)}
theorem x_eqM (hu : X.A.units + 66 < cLine) (d : Dt Ee) (ha : PE X a (tE W F Γ Δ T k1 E1 Δ1)) (hb : ∀ b1, PE X b (tE W F Γ (Δ1 b1) (k1 b1) (fun b2 => k (b1, b2)) (E2 b1) (Δ2 b1))) (r1 : ∀ b1 b2, RdM (Δ2 b1 b2) (E1 b1) Ee (xs b1 b2)) (r2 : ∀ b1 b2, RdM (Δ2 b1 b2) (E2 b1 b2) Ee (ys b1 b2)) (hd : d.dep < 60 := by decide) :
    PE X (.Compare a [.Eq] [b] pos) (tE W F Γ Δ T k (fun b => pBl (deq (xs b.1 b.2) (ys b.1 b.2))) fun b => Δ2 b.1 b.2) := x2t (b_cmp (op_deq hu) (nomark _)) ha hb fun b1 b2 σ v w H Q ok hv hw q => ⟨κ, α, _, _, _, Ee, d, hd, _, _, r1 b1 b2 F H v ok.hk hv, r2 b1 b2 F H w ok.hk hw, q _ rfl⟩
theorem x_neM (hu : X.A.units + 66 < cLine) (d : Dt Ee) (ha : PE X a (tE W F Γ Δ T k1 E1 Δ1)) (hb : ∀ b1, PE X b (tE W F Γ (Δ1 b1) (k1 b1) (fun b2 => k (b1, b2)) (E2 b1) (Δ2 b1))) (r1 : ∀ b1 b2, RdM (Δ2 b1 b2) (E1 b1) Ee (xs b1 b2)) (r2 : ∀ b1 b2, RdM (Δ2 b1 b2) (E2 b1 b2) Ee (ys b1 b2)) (hd : d.dep < 60 := by decide) :
    PE X (.Compare a [.NotEq] [b] pos) (tE W F Γ Δ T k (fun b => pBl (!deq (xs b.1 b.2) (ys b.1 b.2))) fun b => Δ2 b.1 b.2) := x2t (b_cmp (op_dne hu) (nomark _)) ha hb fun b1 b2 σ v w H Q ok hv hw q => ⟨κ, α, _, _, _, Ee, d, hd, _, _, r1 b1 b2 F H v ok.hk hv, r2 b1 b2 F H w ok.hk hw, q _ rfl⟩
theorem t_eqM (hu : X.A.units + 66 < cLine) (d : Dt Ee) (ha : PE X a (tE W F Γ Δ T k1 E1 Δ1)) (hb : ∀ b1, PE X b (tE W F Γ (Δ1 b1) (k1 b1) (fun b2 => k (b1, b2)) (E2 b1) (Δ2 b1))) (r1 : ∀ b1 b2, RdM (Δ2 b1 b2) (E1 b1) Ee (xs b1 b2)) (r2 : ∀ b1 b2, RdM (Δ2 b1 b2) (E2 b1 b2) Ee (ys b1 b2)) (hd : d.dep < 60 := by decide) :
    PT X (.Compare a [.Eq] [b] pos) (tTs W F Γ Δ T k (fun b => deq (xs b.1 b.2) (ys b.1 b.2)) fun b => Δ2 b.1 b.2) := t2t (bt_cmp (op_deq hu) (nomark _)) ha hb fun b1 b2 σ v w H Q ok hv hw q => ⟨κ, α, _, _, _, Ee, d, hd, _, _, r1 b1 b2 F H v ok.hk hv, r2 b1 b2 F H w ok.hk hw, q _ rfl⟩
theorem t_neM (hu : X.A.units + 66 < cLine) (d : Dt Ee) (ha : PE X a (tE W F Γ Δ T k1 E1 Δ1)) (hb : ∀ b1, PE X b (tE W F Γ (Δ1 b1) (k1 b1) (fun b2 => k (b1, b2)) (E2 b1) (Δ2 b1))) (r1 : ∀ b1 b2, RdM (Δ2 b1 b2) (E1 b1) Ee (xs b1 b2)) (r2 : ∀ b1 b2, RdM (Δ2 b1 b2) (E2 b1 b2) Ee (ys b1 b2)) (hd : d.dep < 60 := by decide) :
    PT X (.Compare a [.NotEq] [b] pos) (tTs W F Γ Δ T k (fun b => !deq (xs b.1 b.2) (ys b.1 b.2)) fun b => Δ2 b.1 b.2) := t2t (bt_cmp (op_dne hu) (nomark _)) ha hb fun b1 b2 σ v w H Q ok hv hw q => ⟨κ, α, _, _, _, Ee, d, hd, _, _, r1 b1 b2 F H v ok.hk hv, r2 b1 b2 F H w ok.hk hw, q _ rfl⟩
end
end
section
variable {X : Cx} {W : List Addr} {F : Fm} {Γ : Gm} {Δ : Δs} {γ : Type}
/-! ### a value that is known not to be None -/
theorem x_some {a : Expr} {β α : Type} {T : Option γ} {k : β × α → Option γ} {Ee : α → Pd} {x : β → Option α} {Δ1 : β → Δs} (ha : PE X a (tE W F Γ Δ T (fun b => (x b).bind fun y => k (b, y)) (fun b => pOp Ee (x b)) Δ1)) : PE X a (tE W F Γ Δ T k (fun b => Ee b.2) fun b => Δ1 b.1) :=
  ha.wk fun σ H Q ⟨ok, g, e, q⟩ => ⟨ok, g, e, fun b v H' kb f ok' hv => by
    obtain ⟨y, ey, ky⟩ := bind_some kb
    have hv : (pOp Ee (x b)).pr H' v := hv
    rw [ey] at hv
    exact q (b, y) v H' ky f ok' hv⟩
/-! ### max(i, j), min(i, j), str(i) -/
section
variable {a b : Expr} {p pos : Pos} {β1 β2 : Type} {T : Option γ} {k1 : β1 → Option γ} {k : β1 × β2 → Option γ} {Δ1 : β1 → Δs} {Δ2 : β1 → β2 → Δs} {i : β1 → Int} {j : β1 → β2 → Int}
theorem x_max2 (hm : X.mg "max" = none) (ha : PE X a (tE W F Γ Δ T k1 (fun b => pInt (i b)) Δ1)) (hb : ∀ b1, PE X b (tE W F Γ (Δ1 b1) (k1 b1) (fun b2 => k (b1, b2)) (fun b => pInt (j b1 b)) (Δ2 b1))) (hg : Gl X "max" := by rfl) (hs : starEach [a, b] X.env = (false, eval a X.env) :: starEach [b] X.env := by rfl) (hs2 : starEach [b] X.env = (false, eval b X.env) :: starEach [] X.env := by rfl) (hpl : (backTo pos (starEach [b] X.env)).any (·.1) = false := by rfl) (hc : X.calm = true := by rfl) :
    PE X (.Call (.Name "max" p) [a, b] [] pos) (tE W F Γ Δ T k (fun b => pInt (max (i b.1) (j b.1 b.2))) fun b => Δ2 b.1 b.2) :=
  x2t (b_callB (call_max2 hc) hg hm (by decide +kernel) (by decide) (by decide) hs hs2 hpl) ha hb fun b1 b2 σ v w H Q ok hv hw q => ⟨i b1, j b1 b2, by rw [show v = .int (i b1) from hv, show w = .int (j b1 b2) from hw], q _ (by
    show V.int _ = V.int _
    congr 1
    dsimp only
    by_cases h : j b1 b2 > i b1
    · rw [if_pos h, Int.max_def, if_pos (by omega)]
    · rw [if_neg h, Int.max_def]; split <;> omega)⟩
theorem x_min2 (hm : X.mg "min" = none) (ha : PE X a (tE W F Γ Δ T k1 (fun b => pInt (i b)) Δ1)) (hb : ∀ b1, PE X b (tE W F Γ (Δ1 b1) (k1 b1) (fun b2 => k (b1, b2)) (fun b => pInt (j b1 b)) (Δ2 b1))) (hg : Gl X "min" := by rfl) (hs : starEach [a, b] X.env = (false, eval a X.env) :: starEach [b] X.env := by rfl) (hs2 : starEach [b] X.env = (false, eval b X.env) :: starEach [] X.env := by rfl) (hpl : (backTo pos (starEach [b] X.env)).any (·.1) = false := by rfl) (hc : X.calm = true := by rfl) :
    PE X (.Call (.Name "min" p) [a, b] [] pos) (tE W F Γ Δ T k (fun b => pInt (min (i b.1) (j b.1 b.2))) fun b => Δ2 b.1 b.2) :=
  x2t (b_callB (call_min2 hc) hg hm (by decide +kernel) (by decide) (by decide) hs hs2 hpl) ha hb fun b1 b2 σ v w H Q ok hv hw q => ⟨i b1, j b1 b2, by rw [show v = .int (i b1) from hv, show w = .int (j b1 b2) from hw], q _ (by
    show V.int _ = V.int _
    congr 1
    dsimp only
    by_cases h : j b1 b2 < i b1
    · rw [if_pos h, Int.min_def]; split <;> omega
    · rw [if_neg h, Int.min_def, if_pos (by omega)])⟩
end
section
variable {a b : Expr} {p pos : Pos} {β β1 β2 : Type} {T : Option γ} {k1 : β1 → Option γ} {Δ1 : β1 → Δs} {Δ0 : β → Δs} {Δ2 : β1 → β2 → Δs}
theorem x_strI {k : β → Option γ} {i : β → Int} (hm : X.mg "str" = none) (ha : PE X a (tE W F Γ Δ T (fun b => grd ((i b).natAbs.log2 < 1920) (k b)) (fun b => pInt (i b)) Δ0)) (hg : Gl X "str" := by rfl) (hs : starEach [a] X.env = (false, eval a X.env) :: starEach [] X.env := by rfl) : PE X (.Call (.Name "str" p) [a] [] pos) (tE W F Γ Δ T k (fun b => pStr (Str.ofString (toString (i b)))) Δ0) :=
  x1g (u_callTy call_str_int hg hm (by decide +kernel) (by decide) (by decide) hs) ha fun b σ v H Q ok c hv q => ⟨i b, by rw [show v = .int (i b) from hv], c, q _ rfl⟩
/-- s[i] -/
theorem x_ixC {k : (β1 × β2) × Nat → Option γ} {z : β1 → Str} {j : β1 → β2 → Int} (ha : PE X a (tE W F Γ Δ T k1 (fun b => pStr (z b)) Δ1)) (hb : ∀ b1, PE X b (tE W F Γ (Δ1 b1) (k1 b1) (fun b2 => grd ((z b1).length ≤ sizeLine) ((atI (z b1).cps.toList (j b1 b2)).bind fun x => k ((b1, b2), x))) (fun b => pInt (j b1 b)) (Δ2 b1))) (hs : PlainIx b := by exact fun _ _ => rfl) :
    PE X (.Subscript a b pos) (tE W F Γ Δ T k (fun b => pStr ⟨#[b.2]⟩) fun b => Δ2 b.1.1 b.1.2) :=
  x2_core (b_ix ix_str hs) ha hb fun σ H Q ⟨ok, g, e, q⟩ => ⟨ok, g, e, fun b1 b2 v w H2 kb f ok2 hv hw => by
    obtain ⟨c, kb⟩ := grd_some kb
    obtain ⟨x, ex, kx⟩ := bind_some kb
    exact ⟨z b1, j b1 b2, x, hv, hw, c, ex, q ((b1, b2), x) _ H2 kx f ok2 rfl⟩⟩
end
/-! ### xs.index(x), xs.count(i) -/
def idx? {α : Type} [DecidableEq α] (x : α) : List α → Option Nat
  | [] => none
  | y :: ys => if y = x then some 0 else (idx? x ys).map (· + 1)
theorem idx_spec {α : Type} [DecidableEq α] {x : α} : ∀ {xs : List α} {j : Nat}, idx? x xs = some j → xs[j]? = some x ∧ ∀ m y, m < j → xs[m]? = some y → y ≠ x
  | [], _, h => by cases h
  | y :: ys, j, h => by
    unfold idx? at h
    by_cases e : y = x
    · rw [if_pos e] at h; cases h
      exact ⟨by rw [e]; rfl, fun m _ hm => absurd hm (Nat.not_lt_zero m)⟩
    · rw [if_neg e] at h
      cases hi : idx? x ys with
      | none => rw [hi] at h; cases h
      | some i =>
        rw [hi] at h
        have h : i + 1 = j := Option.some.inj h
        subst h
        obtain ⟨h1, h2⟩ := idx_spec hi
        refine ⟨by simpa using h1, fun m z hm hz => ?_⟩
        cases m with
        | zero => have hz : y = z := by simpa using hz
                  rw [← hz]; exact e
        | succ m => exact h2 m z (by omega) (by simpa using hz)
section
variable {o e : Expr} {apos cpos : Pos} {β1 β2 α : Type} {T : Option γ} {k1 : β1 → Option γ} {Δ1 : β1 → Δs} {Δ2 : β1 → β2 → Δs} {E1 : β1 → Pd} {Ee : α → Pd} {y : β1 → β2 → α}
theorem x_index [DecidableEq α] {k : (β1 × β2) × Nat → Option γ} {xs0 : β1 → List α} {xs : β1 → β2 → List α} (fl : Flat Ee) (ho : PE X o (tE W F Γ Δ T k1 E1 Δ1)) (he : ∀ b1, PE X e (tE W F Γ (Δ1 b1) (k1 b1) (fun b2 => (idx? (y b1 b2) (xs b1 b2)).bind fun n => k ((b1, b2), n)) (fun b2 => Ee (y b1 b2)) (Δ2 b1))) (rd0 : ∀ b1, RdL (Δ1 b1) (E1 b1) Ee (xs0 b1)) (rd : ∀ b1 b2, RdL (Δ2 b1 b2) (E1 b1) Ee (xs b1 b2))
    (hbase : attributeBase o "index" X.env (eval o X.env) = eval o X.env := by rfl) (hline : (apos.endLine == cpos.line) = true := by rfl) (hs : starEach [e] X.env = (false, eval e X.env) :: starEach [] X.env := by rfl)
    (hfew : ((backTo cpos (starEach [e] X.env)).all (fun x => !x.1) && (backToKw cpos (keywordEach [] X.env)).all (fun x => x.1.isSome) && decide ([e].length + ([] : List Keyword).length + (if ([] : List Keyword).isEmpty then 0 else 1) < 30)) = true := by rfl) :
    PE X (.Call (.Attribute o "index" apos) [e] [] cpos) (tE W F Γ Δ T k (fun b => pInt (b.2 : Int)) fun b => Δ2 b.1.1 b.1.2) :=
  (pe_bm PySem.F.plainAttrs_list PySem.F.slot_list_index PySem.F.type_list_index mt_index ho (pa_cons (pe_ex he) pa_nil hs) hbase hfew hline hs).wk fun σ H Q ⟨ok, g, e, q⟩ => ⟨ok, g, e, fun b1 u H1 kb1 f1 ok1 hu => by
    obtain ⟨p0, vs0, ev0, sq0, _, _⟩ := (rd0 b1 F H1 u ok1.hk hu).sq (K := X.K)
    refine ⟨by rw [ev0]; exact .inl ⟨rfl, vs0, sq0⟩, b1, ok1, g, kb1, fun b2 w H2 kb2 f2 ok2 hw => ?_⟩
    obtain ⟨n, en, kn⟩ := bind_some kb2
    obtain ⟨p, vs, ev, sq, _, pr⟩ := (rd b1 b2 F H2 u ok2.hk ((E1 b1).mono f2.fz hu)).sq (K := X.K)
    have e1 := flat_vals fl pr
    subst e1
    have e2 := fl.eq hw
    subst e2
    obtain ⟨i1, i2⟩ := idx_spec en
    refine ⟨p, _, fl.mp (y b1 b2), n, fl.mp (y b1 b2), ev, rfl, sq, fl.fl _, flat_all fl _, by rw [List.getElem?_map, i1]; rfl, by rw [fl.one]; simp, fun m z' hm hz => ?_, q ((b1, b2), n) _ H2 kn (f1.trans f2) ok2 rfl⟩
    rw [List.getElem?_map] at hz
    cases hx : (xs b1 b2)[m]? with
    | none => rw [hx] at hz; cases hz
    | some x =>
      rw [hx] at hz
      have hz : fl.mp x = z' := by simpa using hz
      rw [← hz, fl.one, decide_eq_false (i2 m x hm hx)]⟩
theorem x_countI {k : β1 × β2 → Option γ} {xs0 : β1 → List Int} {xs : β1 → β2 → List Int} {y : β1 → β2 → Int} (ho : PE X o (tE W F Γ Δ T k1 E1 Δ1)) (he : ∀ b1, PE X e (tE W F Γ (Δ1 b1) (k1 b1) (fun b2 => k (b1, b2)) (fun b2 => pInt (y b1 b2)) (Δ2 b1))) (rd0 : ∀ b1, RdL (Δ1 b1) (E1 b1) pInt (xs0 b1)) (rd : ∀ b1 b2, RdL (Δ2 b1 b2) (E1 b1) pInt (xs b1 b2))
    (hbase : attributeBase o "count" X.env (eval o X.env) = eval o X.env := by rfl) (hline : (apos.endLine == cpos.line) = true := by rfl) (hs : starEach [e] X.env = (false, eval e X.env) :: starEach [] X.env := by rfl)
    (hfew : ((backTo cpos (starEach [e] X.env)).all (fun x => !x.1) && (backToKw cpos (keywordEach [] X.env)).all (fun x => x.1.isSome) && decide ([e].length + ([] : List Keyword).length + (if ([] : List Keyword).isEmpty then 0 else 1) < 30)) = true := by rfl) :
    PE X (.Call (.Attribute o "count" apos) [e] [] cpos) (tE W F Γ Δ T k (fun b => pInt (((xs b.1 b.2).count (y b.1 b.2) : Nat) : Int)) fun b => Δ2 b.1 b.2) :=
  (pe_bm PySem.F.plainAttrs_list PySem.F.slot_list_count PySem.F.type_list_count mt_lcount ho (pa_cons (pe_ex he) pa_nil hs) hbase hfew hline hs).wk fun σ H Q ⟨ok, g, e, q⟩ => ⟨ok, g, e, fun b1 u H1 kb1 f1 ok1 hu => by
    obtain ⟨p0, vs0, ev0, sq0, _, _⟩ := (rd0 b1 F H1 u ok1.hk hu).sq (K := X.K)
    refine ⟨by rw [ev0]; exact .inl ⟨rfl, vs0, sq0⟩, b1, ok1, g, kb1, fun b2 w H2 kb2 f2 ok2 hw => ?_⟩
    obtain ⟨p, vs, ev, sq, _, pr⟩ := (rd b1 b2 F H2 u ok2.hk ((E1 b1).mono f2.fz hu)).sq (K := X.K)
    have e1 := paired_ints pr
    subst e1
    exact ⟨p, xs b1 b2, y b1 b2, ev, by rw [show w = .int (y b1 b2) from hw], sq, q (b1, b2) _ H2 kb2 (f1.trans f2) ok2 rfl⟩⟩
end
theorem feOp0 {α : Type} {E : α → Pd} (fe : FlatE E) : ∀ (x : Option α) H H' v, (pOp E x).pr H v → (pOp E x).pr H' v
  | none, _, _, _, h => h
  | some y, H, H', v, h => fe y H H' v h
theorem feOp {β α : Type} {E : α → Pd} {x : β → Option α} (fe : FlatE E) : FlatE fun b => pOp E (x b) := fun b H H' v h => feOp0 fe (x b) H H' v h
theorem feI : FlatE pInt := fun _ _ _ _ h => h
theorem feS : FlatE pStr := fun _ _ _ _ h => h
/-! ### what is made under a lock -/
def FlatO {β : Type} (D : β → Od) : Prop := ∀ b G H H' v, (D b).pr G H v → (∀ a ∈ G, H' a = H a) → (D b).pr G H' v
theorem foL {β α : Type} {E : α → Pd} {x : β → List α} (fe : FlatE E) : FlatO fun b => oL E (x b) := fun b G H H' v ⟨p, vs, eg, ev, h, z, q⟩ k => ⟨p, vs, eg, ev, by rw [k p (by rw [eg]; exact List.mem_singleton.mpr rfl)]; exact h, z, paired_mono (fun x u => fe x H H' u) q⟩
theorem foM {β κ α : Type} [DecidableEq κ] [Ky κ] {E : α → Pd} {x : β → List (κ × α)} (fe : FlatE E) : FlatO fun b => oM E (x b) := fun b G H H' v ⟨p, vs, eg, ev, h, z, q⟩ k => ⟨p, vs, eg, ev, by rw [k p (by rw [eg]; exact List.mem_singleton.mpr rfl)]; exact h, z, paired_mono (fun x u w => ⟨w.1, fe x.2 H H' u.2 w.2⟩) q⟩
theorem o_lockG {e : Expr} {β : Type} {T : Option γ} {k : β → Option γ} {D : β → Od} {G : List Addr} {v : V} {d : Od} {prm : Bool} (j i : Nat) (fo : FlatO D)
    (he : PE X e (tO [] F (Γ.set i (some d.pd)) (Δ.eraseIdx j) T k D fun _ => Δ.eraseIdx j)) (hj : Δ[j]? = some ⟨G, v, d, prm⟩ := by rfl) (hi : Γ[i]? = some (some (pV v)) := by rfl) : PE X e (tO W F Γ Δ T k D fun _ => Δ) :=
  (pe_lkE he G).wk fun σ H Q ⟨ok, g, e, q⟩ => by
    have hc := ok.hk.del _ (cell_mem hj)
    have nd : G.Nodup := ok.hk.ndup hj
    refine tLkE_of (fun H Q Q' h ⟨a, g, b, c⟩ => ⟨a, g, b, fun b v G2 H' k s n o => h v H' (c b v G2 H' k s n o)⟩) nd (d.cells hc) fun H1 h1 h2 => ?_
    have dm1 : ∀ a, H1 a = none → H a = none := fun a ha => by
      by_cases hG : a ∈ G
      · obtain ⟨u, hu, _⟩ := d.cells hc a hG
        obtain ⟨o, ho⟩ := h2 a hG u hu
        rw [ho] at ha; cases ha
      · rw [← h1 a hG]; exact ha
    refine ⟨ok.lockG hj hi h1 h2, g, e, fun b w G2 H' kb st nw ok2 => ⟨fun a ha => ?_, fun H2 r1 r2 => ?_⟩⟩
    · obtain ⟨u, hu, _⟩ := d.cells hc a ha
      obtain ⟨o, ho⟩ := h2 a ha u hu
      rw [ho]
      exact st.gr a _ ho
    · have g2 : Gr H H2 := fun a o e => by
        by_cases ha : a ∈ G
        · rw [r2 a ha]; exact e
        · rw [r1 a ha]
          exact st.gr a o (by rw [h1 a ha]; exact e)
      have nG : ∀ a ∈ G2, a ∉ G := fun a ha hG => by
        obtain ⟨u, hu, _⟩ := d.cells hc a hG
        have := dm1 a (nw a ha)
        rw [hu] at this; cases this
      have new : (D b).pr G2 H2 w := fo b G2 H' H2 w (ok2.hk.del _ List.mem_cons_self) fun a ha => r1 a (nG a ha)
      have nd2 : G2.Nodup := ok2.hk.ndup (j := 0) rfl
      refine q b w G2 H2 kb g2.st (fun a ha => dm1 a (nw a ha)) ⟨ok.hk.add g2 nd2 (fun a ha => dm1 a (nw a ha)) new, ok.len, fun i p e => ?_⟩
      obtain ⟨z, hs, hz⟩ := ok.gam i p e
      exact ⟨z, hs, p.mono g2.fzs hz⟩
end
end L3
end
section
set_option Elab.async false
set_option linter.all false
set_option maxRecDepth 100000
set_option maxHeartbeats 4000000
namespace L3
open PySem PySem.Spec PyProof.Rows L2
section
variable {X : Cx} {W : List Addr} {F : Fm} {Γ : Gm} {Δ : Δs} {γ : Type}
/-- the mirror said otherwise -/
theorem t_T {β : Type} {e : Expr} {T T' : Option γ} {k : β → Option γ} {c : β → Bool} {Δ' : β → Δs} (h : PT X e (tTs W F Γ Δ T' k c Δ')) (hT : T = T') : PT X e (tTs W F Γ Δ T k c Δ') := by rw [hT]; exact h
end
end L3
end
section
set_option Elab.async false
set_option linter.all false
set_option maxRecDepth 100000
set_option maxHeartbeats 4000000
set_option pp.maxSteps 200
noncomputable section
namespace My
open PySem PySem.Spec PyProof.Rows L2 L3
@[irreducible] def M__names_with (a1 : List (Str × Int)) (a2 : Int) : Option (List Str) :=
  (compM (a1.map Prod.fst) () (fun x2 s4 => (dget a1 x2).bind fun x6 => if (decide (x6 = a2)) = true then some (some x2, ()) else some (none, ()))).bind fun r7 => some (r7.1)
@[irreducible] def M__next_mover (a1 : List (Str × Int)) (a2 : List (Str × Int)) : Option (Option Str) :=
  grd (a2.length < 64) ((forL (srtS (a2.map Prod.fst)) (() : Unit) fun x10 s9 => (dget a2 x10).bind fun x12 => (some (x12 : Int)).bind fun x13 => (dget a1 x10).bind fun x15 => ((if (!decide (x15 = x13)) = true then (M__names_with a1 x13).bind fun r18 => (M__names_with a2 x13).bind fun r19 => some ((decide ((r18.length : Int) < (r19.length : Int))), ()) else some (false, ()))).bind fun c20 => if c20.1 = true then inB (some (Tm.rt (some x10))) else some (Bo.nx ())).bind (boK (fun s11 => some (none : Option Str)) id))
@[irreducible] def M_merged_fit (a1 : List (Str × Int)) (a2 : List (Str × Int)) : Option (List (Str × Int)) :=
  (some (a1 : List (Str × Int))).bind fun x22 => (M__next_mover x22 a2).bind fun r26 => (some (r26 : Option Str)).bind fun x27 => (whL wfuel (fun s29 => if (!((s29.1).isNone)) = true then (((s29.1)).bind fun u33 => (dget a2 u33).bind fun x34 => ((s29.1)).bind fun u35 => grd ((s29.2).length < sizeLine) ((M__next_mover (dput (s29.2) u35 x34) a2).bind fun r37 => (some (r37 : Option Str)).bind fun x38 => some (Bo.nx (x38, (dput (s29.2) u35 x34))))).bind (fun o_ => some (some o_)) else some none) ((x27, x22) : (Option Str) × (List (Str × Int)))).bind (boK (fun s30 => some (s30.2)) (fun e : Empty => nomatch e))
@[irreducible] def M_l_is_integer (a1 : Int) : Option (Bool) :=
  some (true && (!false))
@[irreducible] def M_l_stream (a1 : List Int) (a2 : Int) : Option (List Int) :=
  (some ((0 : Int) : Int)).bind fun x40 => (if (decide (a2 < (a1.length : Int))) = true then (atI a1 a2).bind fun x44 => (some (x44 : Int)).bind fun x45 => some x45 else some x40).bind fun s43 => grd ((sm s43 || sm (if (decide (((10 : Int) ^ (18 : Int).toNat) ≤ s43)) then 1 else 0 : Int)) = true) (some ([(s43 * (if (decide (((10 : Int) ^ (18 : Int).toNat) ≤ s43)) then 1 else 0 : Int)), (0 : Int), s43]))
@[irreducible] def M_l_next (a1 : List Int) (a2 : Int) : Option (Int × (List Int)) :=
  (atI a1 (1 : Int)).bind fun x47 => (ixN a1.length (1 : Int)).bind fun (_ : Nat) => (atI (a1.set ((ixN a1.length (1 : Int)).getD 0) (x47 + (1 : Int))) (0 : Int)).bind fun x49 => if (decide ((0 : Int) < x49)) = true then (atI (a1.set ((ixN a1.length (1 : Int)).getD 0) (x47 + (1 : Int))) (0 : Int)).bind fun x51 => grd (0 < a2) ((some ((x51 % a2) : Int)).bind fun x52 => (atI (a1.set ((ixN a1.length (1 : Int)).getD 0) (x47 + (1 : Int))) (0 : Int)).bind fun x54 => grd (dv a2 = true) ((ixN (a1.set ((ixN a1.length (1 : Int)).getD 0) (x47 + (1 : Int))).length (0 : Int)).bind fun (_ : Nat) => some (x52, ((a1.set ((ixN a1.length (1 : Int)).getD 0) (x47 + (1 : Int))).set ((ixN (a1.set ((ixN a1.length (1 : Int)).getD 0) (x47 + (1 : Int))).length (0 : Int)).getD 0) (x54 / a2))))) else (atI (a1.set ((ixN a1.length (1 : Int)).getD 0) (x47 + (1 : Int))) (2 : Int)).bind fun x56 => (atI (a1.set ((ixN a1.length (1 : Int)).getD 0) (x47 + (1 : Int))) (1 : Int)).bind fun x57 => grd ((sm (7919 : Int) || sm x57) = true) (grd (0 < (2147483647 : Int)) ((some ((((x56 + ((7919 : Int) * x57)) + (13 : Int)) % (2147483647 : Int)) : Int)).bind fun x58 => grd ((sm x58 || sm (x58 + (48271 : Int))) = true) (grd (0 < (2147483629 : Int)) ((some (((x58 * (x58 + (48271 : Int))) % (2147483629 : Int)) : Int)).bind fun x60 => grd ((sm x60 || sm (x60 + (69621 : Int))) = true) ((atI (a1.set ((ixN a1.length (1 : Int)).getD 0) (x47 + (1 : Int))) (1 : Int)).bind fun x62 => grd ((sm (31 : Int) || sm x62) = true) (grd (0 < (2147483647 : Int)) ((some ((((x60 * (x60 + (69621 : Int))) + ((31 : Int) * x62)) % (2147483647 : Int)) : Int)).bind fun x63 => grd (dv (9 : Int) = true) (grd (0 < a2) (some (((x63 / (9 : Int)) % a2), (a1.set ((ixN a1.length (1 : Int)).getD 0) (x47 + (1 : Int)))))))))))))
@[irreducible] def M_l_names (a1 : List Int) (a2 : Int) : Option ((List Str) × (List Int)) :=
  (M_l_next a1 (3 : Int)).bind fun r65 => if (decide ((r65.1) = (0 : Int))) = true then (M_l_next (r65.2) (8 : Int)).bind fun r67 => (some (r67.1 : Int)).bind fun x68 => (some ([("x" : Str), ("yard" : Str), ("z" : Str), ("u" : Str), ("wide_one" : Str), ("q" : Str), ("pp" : Str), ("t" : Str)] : List Str)).bind fun x70 => grd (rg a2 = true) ((compM (rngL 0 a2.toNat) () (fun x73 s75 => if true = true then grd ((sm x73 || sm (3 : Int)) = true) (grd (0 < (8 : Int)) ((atI x70 (((x73 * (3 : Int)) + x68) % (8 : Int))).bind fun x77 => some (some x77, ()))) else some (none, ()))).bind fun r78 => some (r78.1, r67.2)) else (some (("qwertyuiopasdfghjklzxcvbnm_zyx" : Str) : Str)).bind fun x79 => (some ([] : List Str)).bind fun x81 => grd (rg a2 = true) ((forS (rngL 0 a2.toNat) ((x81, r65.2) : (List Str) × (List Int)) fun x87 s86 => (M_l_next (s86.2) (26 : Int)).bind fun r90 => (some (r90.1 : Int)).bind fun x91 => (M_l_next (r90.2) (3 : Int)).bind fun r93 => (some (((1 : Int) + (r93.1)) : Int)).bind fun x94 => (M_l_next (r93.2) (3 : Int)).bind fun r96 => grd (x79.length ≤ sizeLine) ((some ((cutS x79 (some ((26 : Int) - (r96.1))) (some (26 : Int))) : Str)).bind fun x97 => grd (x79.length ≤ sizeLine) (grd (("7305186429" : Str).length ≤ sizeLine) ((atI ("7305186429" : Str).cps.toList x87).bind fun x99 => grd ((cutS x79 (some x91) (some (x91 + x94))).length + (⟨#[x99]⟩ : Str).length ≤ sizeLine) (grd (((cutS x79 (some x91) (some (x91 + x94))) ++ (⟨#[x99]⟩ : Str)).length + x97.length ≤ sizeLine) (grd ((s86.1).length < sizeLine) (some (((s86.1) ++ [(((cutS x79 (some x91) (some (x91 + x94))) ++ (⟨#[x99]⟩ : Str)) ++ x97)]), r96.2)))))))).bind fun s88 => some (s88.1, s88.2))
@[irreducible] def M_l_pool (a1 : List Int) (a2 : Int) : Option ((List Int) × (List Int)) :=
  (M_l_next a1 (9 : Int)).bind fun r101 => (some ([((r101.1) - (4 : Int))] : List Int)).bind fun x102 => grd (rg (a2 - (1 : Int)) = true) ((forS (rngL 0 (a2 - (1 : Int)).toNat) ((x102, r101.2) : (List Int) × (List Int)) fun x108 s107 => (atI (s107.1) x108).bind fun x119 => (M_l_next (s107.2) (4 : Int)).bind fun r120 => grd (dv (3 : Int) = true) (grd ((sm (2 : Int) || sm ((r120.1) / (3 : Int))) = true) (grd ((s107.1).length < sizeLine) (some (((s107.1) ++ [((x119 + (1 : Int)) + ((2 : Int) * ((r120.1) / (3 : Int))))]), r120.2))))).bind fun s109 => (M_l_next (s109.2) (8 : Int)).bind fun r110 => (atI ([(1 : Int), (1 : Int), (1 : Int), (1 : Int), (1 : Int), (1 : Int), (7 : Int), ((10 : Int) ^ (9 : Int).toNat)]) (r110.1)).bind fun x111 => (some (x111 : Int)).bind fun x112 => (compM (s109.1) () (fun x115 s116 => if true = true then grd ((sm x115 || sm x112) = true) (some (some (x115 * x112), ())) else some (none, ()))).bind fun r118 => some (r118.1, r110.2))
@[irreducible] def M_l_shuffled (a1 : List Int) (a2 : List Str) : Option ((List Str) × (List Int)) :=
  (some (a2 : List Str)).bind fun x122 => (some ([] : List Str)).bind fun x124 => grd (rg (a2.length : Int) = true) ((forS (rngL 0 (a2.length : Int).toNat) ((x122, x124, a1) : (List Str) × (List Str) × (List Int)) fun x130 s129 => (M_l_next (s129.2.2) ((s129.1).length : Int)).bind fun r133 => (some (r133.1 : Int)).bind fun x134 => (atI (s129.1) x134).bind fun x136 => grd ((s129.2.1).length < sizeLine) (grd ((cutL (s129.1) none (some x134)).length + (cutL (s129.1) (some (x134 + (1 : Int))) none).length ≤ sizeLine) ((some (((cutL (s129.1) none (some x134)) ++ (cutL (s129.1) (some (x134 + (1 : Int))) none)) : List Str)).bind fun x138 => some (x138, ((s129.2.1) ++ [x136]), r133.2)))).bind fun s131 => some (s131.2.1, s131.2.2))
@[irreducible] def M_l_many_names (a1 : List Int) (a2 : Int) : Option ((List Str) × (List Int)) :=
  (M_l_next a1 (4 : Int)).bind fun r140 => (atI ([("n" : Str), ("item_" : Str), ("q7" : Str), ("x_y_z0" : Str)]) (r140.1)).bind fun x141 => (some (x141 : Str)).bind fun x142 => (M_l_next (r140.2) (3 : Int)).bind fun r144 => (atI ([("" : Str), ("a" : Str), ("_tail" : Str)]) (r144.1)).bind fun x145 => (some (x145 : Str)).bind fun x146 => (M_l_next (r144.2) (16 : Int)).bind fun r148 => (some (r148.1 : Int)).bind fun x149 => grd (rg a2 = true) ((compM (rngL 0 a2.toNat) () (fun x152 s153 => if true = true then grd ((sm x152 || sm (7 : Int)) = true) (grd (0 < (16 : Int)) (grd ((((x152 * (7 : Int)) + x149) % (16 : Int)).natAbs.log2 < 1920) (grd (x142.length + (Str.ofString (toString (((x152 * (7 : Int)) + x149) % (16 : Int)))).length ≤ sizeLine) (grd ((x142 ++ (Str.ofString (toString (((x152 * (7 : Int)) + x149) % (16 : Int))))).length + x146.length ≤ sizeLine) (some (some ((x142 ++ (Str.ofString (toString (((x152 * (7 : Int)) + x149) % (16 : Int))))) ++ x146), ())))))) else some (none, ()))).bind fun r155 => some (r155.1, r148.2))
@[irreducible] def M_l_drawn_names (a1 : List Int) (a2 : Int) : Option ((List Str) × (List Int)) :=
  if (decide ((8 : Int) < a2)) = true then (M_l_many_names a1 a2).bind fun r157 => some (r157.1, r157.2) else (M_l_names a1 a2).bind fun r158 => some (r158.1, r158.2)
@[irreducible] def M_l_two (a1 : List Int) (a2 : List Str) (a3 : List Int) : Option ((List (List (Str × Int))) × (List Int)) :=
  (M_l_next a1 (3 : Int)).bind fun r159 => (some ((decide ((r159.1) = (0 : Int))) : Bool)).bind fun x160 => (M_l_next (r159.2) (2 : Int)).bind fun r162 => (some (r162.1 : Int)).bind fun x163 => (some ((4 : Int) : Int)).bind fun x165 => (if x160 = true then (some ((1 : Int) : Int)).bind fun x217 => some x217 else some x165).bind fun s168 => (some (([] : List (Str × Int)) : List (Str × Int))).bind fun x169 => (some (([] : List (Str × Int)) : List (Str × Int))).bind fun x173 => (M_l_shuffled (r162.2) a2).bind fun r177 => (forS (r177.1) ((x173, x169, r177.2) : (List (Str × Int)) × (List (Str × Int)) × (List Int)) fun x180 s179 => (idx? x180 a2).bind fun n195 => (some ((n195 : Int) : Int)).bind fun x196 => grd (0 < (a3.length : Int)) ((atI a3 ((x196 + x163) % (a3.length : Int))).bind fun x198 => grd (0 < (a3.length : Int)) ((atI a3 (((x196 + (1 : Int)) - x163) % (a3.length : Int))).bind fun x199 => (some ([x198, x199] : List Int)).bind fun x200 => (if (!x160) = true then (M_l_next (s179.2.2) (a3.length : Int)).bind fun r211 => (atI a3 (r211.1)).bind fun x212 => (M_l_next (r211.2) (a3.length : Int)).bind fun r213 => (atI a3 (r213.1)).bind fun x214 => (some ([x212, x214] : List Int)).bind fun x215 => some (x215, r213.2) else some (x200, s179.2.2)).bind fun s203 => (atI (s203.1) (0 : Int)).bind fun x204 => grd ((s179.2.1).length < sizeLine) ((M_l_next (s203.2) (12 : Int)).bind fun r206 => (if (decide (s168 ≤ (r206.1))) = true then (atI (s203.1) (1 : Int)).bind fun x209 => grd ((s179.1).length < sizeLine) (some ((dput (s179.1) x180 x209), r206.2)) else some (s179.1, r206.2)).bind fun s208 => some (s208.1, (dput (s179.2.1) x180 x204), s208.2))))).bind fun s181 => (some (([] : List (Str × Int)) : List (Str × Int))).bind fun x182 => (M_l_shuffled (s181.2.2) a2).bind fun r186 => (forS (r186.1) (x182 : (List (Str × Int))) fun x189 s188 => (if (dhas (s181.1) x189) = true then (dget (s181.1) x189).bind fun x193 => grd (s188.length < sizeLine) (some (dput s188 x189 x193)) else some s188).bind fun s192 => some s192).bind fun s190 => some ([s181.2.1, s190], r186.2)
@[irreducible] def M_l_same_values (a1 : List (Str × Int)) (a2 : List (Str × Int)) : Option (Bool) :=
  if ((!true) || (!decide ((a1.length : Int) = (a2.length : Int)))) = true then some false else (compM (a2.map Prod.fst) () (fun x221 s227 => ((if (dhas a1 x221) = true then (dget a1 x221).bind fun x231 => (M_l_is_integer x231).bind fun r232 => some (r232, ()) else some (false, ()))).bind fun c233 => if c233.1 = true then some (some x221, ()) else some (none, ()))).bind fun r234 => (some (r234.1 : List Str)).bind fun x235 => ((if (decide ((x235.length : Int) = (a2.length : Int))) = true then (compM x235 () (fun x249 s252 => if true = true then (dget a1 x249).bind fun x254 => (dget a2 x249).bind fun x255 => some (some (decide (x254 = x255)), ()) else some (none, ()))).bind fun r256 => some (((r256.1).all id), ()) else some (false, ()))).bind fun c257 => some (c257.1)
@[irreducible] def M_l_is_merged (a1 : List (Str × Int)) (a2 : List (Str × Int)) (a3 : List (Str × Int)) : Option (Bool) :=
  if ((!true) || (!decide ((a1.length : Int) = (a2.length : Int)))) = true then some false else (forL (a2.map Prod.fst) (() : Unit) fun x261 s260 => ((if (!dhas a1 x261) = true then some (true, ()) else (dget a1 x261).bind fun x304 => (M_l_is_integer x304).bind fun r305 => some ((!r305), ()))).bind fun c306 => if c306.1 = true then inB (some (Tm.rt false)) else (dget a1 x261).bind fun x308 => (dget a2 x261).bind fun x309 => ((if (!decide (x308 = x309)) = true then ((if (!dhas a3 x261) = true then some (true, ()) else (dget a1 x261).bind fun x317 => (dget a3 x261).bind fun x318 => some ((!decide (x317 = x318)), ()))).bind fun c319 => some (c319.1, ()) else some (false, ()))).bind fun c320 => if c320.1 = true then inB (some (Tm.rt false)) else some (Bo.nx ())).bind (boK (fun s262 => (compM (a2.map Prod.fst) () (fun x264 s266 => if true = true then (dget a1 x264).bind fun x268 => some (some x268, ()) else some (none, ()))).bind fun r269 => (some (r269.1 : List Int)).bind fun x270 => (compM (a2.map Prod.fst) () (fun x275 s277 => if true = true then (dget a2 x275).bind fun x279 => some (some x279, ()) else some (none, ()))).bind fun r280 => (some (r280.1 : List Int)).bind fun x281 => (compM (a3.map Prod.fst) () (fun x286 s288 => if true = true then (dget a3 x286).bind fun x290 => some (some x290, ()) else some (none, ()))).bind fun r291 => (some (r291.1 : List Int)).bind fun x292 => grd (x281.length + x292.length ≤ sizeLine) ((forL (x281 ++ x292) (() : Unit) fun x298 s297 => if (decide (((x270.count x298 : Nat) : Int) < ((x292.count x298 : Nat) : Int))) = true then inB (some (Tm.rt false)) else if (decide ((max ((x281.count x298 : Nat) : Int) ((x292.count x298 : Nat) : Int)) < ((x270.count x298 : Nat) : Int))) = true then inB (some (Tm.rt false)) else some (Bo.nx ())).bind (boK (fun s299 => some true) id))) id)
@[irreducible] def M_law (a1 : List Int) : Option (Bool) :=
  (M_l_stream a1 (0 : Int)).bind fun r322 => (some (r322 : List Int)).bind fun x323 => (M_l_next x323 (6 : Int)).bind fun r327 => (some ((decide ((r327.1) = (5 : Int))) : Bool)).bind fun x328 => (M_l_next (r327.2) (11 : Int)).bind fun r330 => (some (r330.1 : Int)).bind fun x331 => (if x328 = true then (some ((16 : Int) : Int)).bind fun x411 => some x411 else some x331).bind fun s334 => (M_l_drawn_names (r330.2) s334).bind fun r335 => (some (r335.1 : List Str)).bind fun x336 => (M_l_next (r335.2) (4 : Int)).bind fun r338 => (some (((2 : Int) + (r338.1)) : Int)).bind fun x339 => (M_l_next (r338.2) (3 : Int)).bind fun r341 => (if (decide ((r341.1) = (0 : Int))) = true then (some ((s334 + (1 : Int)) : Int)).bind fun x409 => some (x409, r341.2) else some (x339, r341.2)).bind fun s343 => (M_l_pool (s343.2) (s343.1)).bind fun r344 => (some (r344.1 : List Int)).bind fun x345 => (M_l_stream a1 (1 : Int)).bind fun r347 => (M_l_two r347 x336 x345).bind fun r349 => (some (r349.1 : List (List (Str × Int)))).bind fun x350 => (M_l_stream a1 (2 : Int)).bind fun r352 => (M_l_two r352 x336 x345).bind fun r354 => (some (r354.1 : List (List (Str × Int)))).bind fun x355 => (M_l_stream a1 (3 : Int)).bind fun r357 => (M_l_next r357 (4 : Int)).bind fun r359 => (some ((decide ((r359.1) = (0 : Int))) : Bool)).bind fun x360 => (some ([] : List (List (Str × Int)))).bind fun x362 => (atI x350 (0 : Int)).bind fun x366 => (atI x355 (1 : Int)).bind fun x367 => (forL ([x350, [x366, x367], x355, x350]) (x362 : (List (List (Str × Int)))) fun x370 s369 => (atI x370 (0 : Int)).bind fun x374 => (some (x374 : List (Str × Int))).bind fun x375 => (atI x370 (1 : Int)).bind fun x379 => (some (x379 : List (Str × Int))).bind fun x380 => (M_merged_fit x375 x380).bind fun r384 => (some (r384 : List (Str × Int))).bind fun x385 => (atI x370 (0 : Int)).bind fun x389 => (atI x370 (1 : Int)).bind fun x390 => (M_l_is_merged x385 x389 x390).bind fun r391 => if (!r391) = true then inB (some (Tm.rt false)) else grd (s369.length < sizeLine) ((if x360 = true then some ([] : List (Str × Int)) else some x385).bind fun s395 => (atI x370 (0 : Int)).bind fun x396 => (M_l_same_values x375 x396).bind fun r397 => ((if (!r397) = true then some (true, ()) else (atI x370 (1 : Int)).bind fun x400 => (M_l_same_values x380 x400).bind fun r401 => some ((!r401), ()))).bind fun c402 => if c402.1 = true then inB (some (Tm.rt false)) else (if x360 = true then some (([] : List (Str × Int)), ([] : List (Str × Int))) else some (x380, x375)).bind fun s405 => some (Bo.nx (s369 ++ [x385])))).bind (boK (fun s371 => (atI s371 (3 : Int)).bind fun x372 => (atI s371 (0 : Int)).bind fun x373 => some (deq x372 x373)) id)
end My
end
section
set_option Elab.async false
set_option linter.all false
set_option maxRecDepth 100000
set_option maxHeartbeats 4000000
namespace My
open PySem PySem.Spec PyProof.Rows L2 L3
def top (i : Nat) : Stmt := PySem.Challenge.pw_curbdesk_k20_merged_fit.main.body.getD i (.Pass ⟨0, 0, 0, 0⟩)
abbrev FnP (K : PySem.W.Frag) (x : Str) (st : Stmt) (f : Addr) (fd : FuncData) : Prop := FunD K x x (defArgs st) (defBody st) (defScope st) [] [] f fd
structure Ev (K : PySem.W.Frag) (mg : Str → Option Value) : Prop where
  f__names_with : ∃ (f : Addr) (fd : FuncData), FnP K "_names_with" (top 1) f fd ∧ mg "_names_with" = some (.ref f)
  f__next_mover : ∃ (f : Addr) (fd : FuncData), FnP K "_next_mover" (top 2) f fd ∧ mg "_next_mover" = some (.ref f)
  f_merged_fit : ∃ (f : Addr) (fd : FuncData), FnP K "merged_fit" (top 3) f fd ∧ mg "merged_fit" = some (.ref f)
  f_l_is_integer : ∃ (f : Addr) (fd : FuncData), FnP K "_law_is_integer" (top 5) f fd ∧ mg "_law_is_integer" = some (.ref f)
  f_l_stream : ∃ (f : Addr) (fd : FuncData), FnP K "_law_stream" (top 6) f fd ∧ mg "_law_stream" = some (.ref f)
  f_l_next : ∃ (f : Addr) (fd : FuncData), FnP K "_law_next" (top 7) f fd ∧ mg "_law_next" = some (.ref f)
  f_l_names : ∃ (f : Addr) (fd : FuncData), FnP K "_law_names" (top 8) f fd ∧ mg "_law_names" = some (.ref f)
  f_l_pool : ∃ (f : Addr) (fd : FuncData), FnP K "_law_pool" (top 9) f fd ∧ mg "_law_pool" = some (.ref f)
  f_l_shuffled : ∃ (f : Addr) (fd : FuncData), FnP K "_law_shuffled" (top 10) f fd ∧ mg "_law_shuffled" = some (.ref f)
  f_l_many_names : ∃ (f : Addr) (fd : FuncData), FnP K "_law_many_names" (top 11) f fd ∧ mg "_law_many_names" = some (.ref f)
  f_l_drawn_names : ∃ (f : Addr) (fd : FuncData), FnP K "_law_drawn_names" (top 12) f fd ∧ mg "_law_drawn_names" = some (.ref f)
  f_l_two : ∃ (f : Addr) (fd : FuncData), FnP K "_law_two" (top 13) f fd ∧ mg "_law_two" = some (.ref f)
  f_l_same_values : ∃ (f : Addr) (fd : FuncData), FnP K "_law_same_values" (top 14) f fd ∧ mg "_law_same_values" = some (.ref f)
  f_l_is_merged : ∃ (f : Addr) (fd : FuncData), FnP K "_law_is_merged" (top 15) f fd ∧ mg "_law_is_merged" = some (.ref f)
  m_all : mg "all" = none
  m_bool : mg "bool" = none
  m_dict : mg "dict" = none
  m_int : mg "int" = none
  m_isinstance : mg "isinstance" = none
  m_len : mg "len" = none
  m_list : mg "list" = none
  m_max : mg "max" = none
  m_range : mg "range" = none
  m_sorted : mg "sorted" = none
  m_str : mg "str" = none
end My
end
section
set_option Elab.async false
set_option linter.all false
set_option maxRecDepth 100000
set_option maxHeartbeats 4000000
set_option pp.maxSteps 200
namespace My
open PySem PySem.Spec PyProof.Rows L2 L3
section
variable {P : Program} {w : World} {K : PySem.W.Frag} {mg : Str → Option Value} {base : Heap}
theorem sc__names_with : FnScope ["values", "value", "name"] ["values", "value"] (defScope (top 1)) := ⟨rfl, rfl, rfl, by decide +kernel, rfl, by decide +kernel, by decide +kernel⟩
theorem ok__names_with {f : Addr} {fd : FuncData} (C : Ev K mg) (FD : FnP K "_names_with" (top 1) f fd)   : FnOk P w K mg base CX0 1 f fd ["values", "value"] (Sp_FF_o (pM (κ := Str) pInt) pInt M__names_with (oL pStr)) := by
  refine fn_FF_o FD sc__names_with rfl fun cdv A outer s H E hr  a1 a2 => ?_
  exact s_is (s_T (T := (compM (a1.map Prod.fst) () (fun x2 s4 => (dget a1 x2).bind fun x6 => if (decide (x6 = a2)) = true then some (some x2, ()) else some (none, ()))).bind fun r7 => some (r7.1)) (s_retO (P := (fun _ => [])) (Ro := (oL pStr)) (ι := id) (rv := fun (b : (Unit × ((List Str) × Unit))) => b.2.1) (fun _ _ _ h => h) (o_kd (o_kd (E := fun (b_ : (Unit × ((List Str) × Unit))) => (oL pStr) b_.2.1) (x_lc (own := [("name", 2)]) (C := fun (b_ : Unit) (s_ : Unit) => []) (s0 := fun (b_ : Unit) => ()) (s2 := fun (b_ : Unit) (x_ : Str) (s_ : Unit) (c_ : (((Unit × Unit) × Int) × Unit)) => ()) (s3 := fun (b_ : Unit) (x_ : Str) (s_ : Unit) (c_ : (((Unit × Unit) × Int) × Unit)) (d_ : Unit) => ()) (Ex := pStr) (Ee := pStr) (δ := Str) (y := fun (b_ : Unit) (x_ : Str) (s_ : Unit) (c_ : (((Unit × Unit) × Int) × Unit)) (d_ : Unit) => x_) (T2 := fun (b_ : Unit) (x_ : Str) (s_ : Unit) (c_ : (((Unit × Unit) × Int) × Unit)) => some (some x_, ())) (c := fun (b_ : Unit) (x_ : Str) (s_ : Unit) (c_ : (((Unit × Unit) × Int) × Unit)) => (decide (c_.1.2 = a2))) (f := fun (b_ : Unit) (x_ : Str) (s_ : Unit) => (dget a1 x_).bind fun x6 => if (decide (x6 = a2)) = true then some (some x_, ()) else some (none, ())) sc__names_with.nd (i_mkeys (κ := Str) (x_var (p := (pM (κ := Str) pInt) a1) 0)) (blkOk_by (own := [("name", 2)]) (N := ["values", "value", "name"]) (sc := defScope (top 1)) (by decide +kernel)) (fun _ _ _ _ _ => pg_name (i := 2) sc__names_with.nd rfl (by first | exact .inl rfl | exact .inr rfl)) (tw_name 2) (fun _ => rfl) (by exact fun q5 _ _ _ _ _ b1 x2 s4 => t_out (pts_one (t_kd (c := fun (b_ : (((Unit × Unit) × Int) × Unit)) => (decide (b_.1.2 = a2))) (t_eqI (x_kd (E := fun (b_ : ((Unit × Unit) × Int)) => pInt b_.2) (x_dget (κ := Str) (Ee := pInt) hr.units (x_var (p := (pM (κ := Str) pInt) a1) 0) (fun _ => x_var (p := pStr x2) 2) (fun _ _ => rdMF))) (fun _ => x_var (p := pInt a2) 1))))) (by exact fun q5 _ _ _ _ _ b1 x2 s4 _ => x_out (x_var (p := pStr x2) 2))))) (fun _ => List.Sublist.refl _))) (by unfold M__names_with; rfl)
end
end My
end
section
set_option Elab.async false
set_option linter.all false
set_option maxRecDepth 100000
set_option maxHeartbeats 4000000
set_option pp.maxSteps 200
namespace My
open PySem PySem.Spec PyProof.Rows L2 L3
section
variable {P : Program} {w : World} {K : PySem.W.Frag} {mg : Str → Option Value} {base : Heap}
theorem sc__next_mover : FnScope ["values", "part", "name", "value"] ["values", "part"] (defScope (top 2)) := ⟨rfl, rfl, rfl, by decide +kernel, rfl, by decide +kernel, by decide +kernel⟩
theorem ok__next_mover {f : Addr} {fd : FuncData} (C : Ev K mg) (FD : FnP K "_next_mover" (top 2) f fd)   : FnOk P w K mg base CX0 2 f fd ["values", "part"] (Sp_FF_f (pM (κ := Str) pInt) (pM (κ := Str) pInt) M__next_mover (pOp pStr)) := by
  have m_len := C.m_len
  have m_sorted := C.m_sorted
  obtain ⟨f__names_with, fd__names_with, F__names_with, g__names_with⟩ := C.f__names_with
  have k__names_with := ok__names_with (P := P) (w := w) (base := base) C F__names_with
  have b__names_with : Binds K fd__names_with ["values", "value"] [] := F__names_with.bindsN fun _ _ _ _ _ _ us hl => match us, hl with | [_, _], _ => rfl
  refine fn_FF_f FD sc__next_mover rfl fun cdv A outer s H E hr  a1 a2 => ?_
  exact s_is (s_T (T := grd (a2.length < 64) ((forL (srtS (a2.map Prod.fst)) (() : Unit) fun x10 s9 => (dget a2 x10).bind fun x12 => (some (x12 : Int)).bind fun x13 => (dget a1 x10).bind fun x15 => ((if (!decide (x15 = x13)) = true then (M__names_with a1 x13).bind fun r18 => (M__names_with a2 x13).bind fun r19 => some ((decide ((r18.length : Int) < (r19.length : Int))), ()) else some (false, ()))).bind fun c20 => if c20.1 = true then inB (some (Tm.rt (some x10))) else some (Bo.nx ())).bind (boK (fun s11 => some (none : Option Str)) id))) (s_for PassesOwn.never (fun (b_ : Unit) (s_ : Unit) => ([some ((pM (κ := Str) pInt) a1), some ((pM (κ := Str) pInt) a2), none, none], [])) (fun (b_ : Unit) => ()) (ι := id) (R := (RF ⟨H, []⟩ (fun _ => []) (pOp pStr))) (i_list (x_kd (E := fun (b_ : Unit) => (pL pStr) (srtS (a2.map Prod.fst))) (x_frz (o_kd (E := fun (b_ : Unit) => (oL pStr) (srtS (a2.map Prod.fst))) (x_sortedD (Ee := pInt) m_sorted (x_var (p := (pM (κ := Str) pInt) a2) 1) (fun _ => rdMF)))))) (pg_name (i := 2) sc__next_mover.nd rfl (by first | exact .inl rfl | exact .inr rfl)) (tg_name 2) (fun _ => ⟨rfl, rfl, trivial⟩) (fun _ => List.Sublist.refl _) (fun b8 x10 s9 => s_T (T := (dget a2 x10).bind fun x12 => (some (x12 : Int)).bind fun x13 => (dget a1 x10).bind fun x15 => ((if (!decide (x15 = x13)) = true then (M__names_with a1 x13).bind fun r18 => (M__names_with a2 x13).bind fun r19 => some ((decide ((r18.length : Int) < (r19.length : Int))), ()) else some (false, ()))).bind fun c20 => if c20.1 = true then inB (some (Tm.rt (some x10))) else some (Bo.nx ())) (s_let (i := 3) pInt sc__next_mover.nd (x_kd (E := fun (b_ : ((Unit × Unit) × Int)) => pInt b_.2) (x_dget (κ := Str) (Ee := pInt) hr.units (x_var (p := (pM (κ := Str) pInt) a2) 1) (fun _ => x_var (p := pStr x10) 2) (fun _ _ => rdMF))) fun (b14 : ((Unit × Unit) × Int)) x13 => s_T (T := (dget a1 x10).bind fun x15 => ((if (!decide (x15 = x13)) = true then (M__names_with a1 x13).bind fun r18 => (M__names_with a2 x13).bind fun r19 => some ((decide ((r18.length : Int) < (r19.length : Int))), ()) else some (false, ()))).bind fun c20 => if c20.1 = true then inB (some (Tm.rt (some x10))) else some (Bo.nx ())) (s_ifB ins_T (t_kd (c := fun (b_ : ((((Unit × Unit) × Int) × Unit) × (Bool × Unit))) => b_.2.1) (PW.pt (w_andM (ΔS := fun (b_ : (((Unit × Unit) × Int) × Unit)) (s_ : Unit) => []) (s1 := fun (b_ : (((Unit × Unit) × Int) × Unit)) => ()) (s2 := fun (b_ : (((Unit × Unit) × Int) × Unit)) (c_ : (((Unit × Unit) × (List Str)) × ((Unit × Unit) × (List Str)))) => ()) (t_kd (c := fun (b_ : (((Unit × Unit) × Int) × Unit)) => (!decide (b_.1.2 = x13))) (t_neI (x_kd (E := fun (b_ : ((Unit × Unit) × Int)) => pInt b_.2) (x_dget (κ := Str) (Ee := pInt) hr.units (x_var (p := (pM (κ := Str) pInt) a1) 0) (fun _ => x_var (p := pStr x10) 2) (fun _ _ => rdMF))) (fun _ => x_var (p := pInt x13) 3))) (fun _ => w_and1 (t_kd (c := fun (b_ : (((Unit × Unit) × (List Str)) × ((Unit × Unit) × (List Str)))) => (decide ((b_.1.2.length : Int) < (b_.2.2.length : Int)))) (t_lt (x_kd (E := fun (b_ : ((Unit × Unit) × (List Str))) => pInt (b_.2.length : Int)) (x_lenL (Ee := pStr) m_len (x_kd (E := fun (b_ : ((Unit × Unit) × (List Str))) => (pL pStr) b_.2) (x_frz (o_kd (E := fun (b_ : ((Unit × Unit) × (List Str))) => (oL pStr) b_.2) (x_FF_o (kk := 1) (E1 := (pM (κ := Str) pInt)) (E2 := pInt) k__names_with (hr.mono (by decide)) g__names_with F__names_with.kp b__names_with (x_var (p := (pM (κ := Str) pInt) a1) 0) (fun _ => x_var (p := pInt x13) 3))))) (fun _ => rdF))) (fun _ => x_kd (E := fun (b_ : ((Unit × Unit) × (List Str))) => pInt (b_.2.length : Int)) (x_lenL (Ee := pStr) m_len (x_kd (E := fun (b_ : ((Unit × Unit) × (List Str))) => (pL pStr) b_.2) (x_frz (o_kd (E := fun (b_ : ((Unit × Unit) × (List Str))) => (oL pStr) b_.2) (x_FF_o (kk := 1) (E1 := (pM (κ := Str) pInt)) (E2 := pInt) k__names_with (hr.mono (by decide)) g__names_with F__names_with.kp b__names_with (x_var (p := (pM (κ := Str) pInt) a2) 1) (fun _ => x_var (p := pInt x13) 3))))) (fun _ => rdF)))))) (fun _ => rfl) (fun _ _ => rfl)))) (fun (b21 : ((((Unit × Unit) × Int) × Unit) × (Bool × Unit))) => s_T (T := some (Tm.rt (some x10))) (s_ret (P := (fun _ => [])) (Rp := (pOp pStr)) (ι := Tm.rt) (rv := fun (b : Unit) => (some x10)) (fun _ _ _ h => h) (co_some (E := pStr) (x_var (p := pStr x10) 2)) (fun _ => List.Sublist.refl _))) fun (b21 : ((((Unit × Unit) × Int) × Unit) × (Bool × Unit))) => s_endB () ⟨rfl, rfl, trivial⟩ (List.Sublist.refl _)))) (fun b8 s11 => s_T (T := some (none : Option Str)) (s_ret (P := (fun _ => [])) (Rp := (pOp pStr)) (ι := id) (rv := fun (b : Unit) => (none : Option Str)) (fun _ _ _ h => h) (co_none (E := pStr) x_non) (fun _ => List.Sublist.refl _))) (fun _ _ _ h => h))) (by unfold M__next_mover; rfl)
end
end My
end
section
set_option Elab.async false
set_option linter.all false
set_option maxRecDepth 100000
set_option maxHeartbeats 4000000
set_option pp.maxSteps 200
namespace My
open PySem PySem.Spec PyProof.Rows L2 L3
section
variable {P : Program} {w : World} {K : PySem.W.Frag} {mg : Str → Option Value} {base : Heap}
theorem sc_merged_fit : FnScope ["full", "part", "values", "mover"] ["full", "part"] (defScope (top 3)) := ⟨rfl, rfl, rfl, by decide +kernel, rfl, by decide +kernel, by decide +kernel⟩
theorem ok_merged_fit {f : Addr} {fd : FuncData} (C : Ev K mg) (FD : FnP K "merged_fit" (top 3) f fd)   : FnOk P w K mg base CX0 3 f fd ["full", "part"] (Sp_FF_o (pM (κ := Str) pInt) (pM (κ := Str) pInt) M_merged_fit (oM (κ := Str) pInt)) := by
  have m_dict := C.m_dict
  obtain ⟨f__next_mover, fd__next_mover, F__next_mover, g__next_mover⟩ := C.f__next_mover
  have k__next_mover := ok__next_mover (P := P) (w := w) (base := base) C F__next_mover
  have b__next_mover : Binds K fd__next_mover ["values", "part"] [] := F__next_mover.bindsN fun _ _ _ _ _ _ us hl => match us, hl with | [_, _], _ => rfl
  refine fn_FF_o FD sc_merged_fit rfl fun cdv A outer s H E hr  a1 a2 => ?_
  exact s_is (s_T (T := (some (a1 : List (Str × Int))).bind fun x22 => (M__next_mover x22 a2).bind fun r26 => (some (r26 : Option Str)).bind fun x27 => (whL wfuel (fun s29 => if (!((s29.1).isNone)) = true then (((s29.1)).bind fun u33 => (dget a2 u33).bind fun x34 => ((s29.1)).bind fun u35 => grd ((s29.2).length < sizeLine) ((M__next_mover (dput (s29.2) u35 x34) a2).bind fun r37 => (some (r37 : Option Str)).bind fun x38 => some (Bo.nx (x38, (dput (s29.2) u35 x34))))).bind (fun o_ => some (some o_)) else some none) ((x27, x22) : (Option Str) × (List (Str × Int)))).bind (boK (fun s30 => some (s30.2)) (fun e : Empty => nomatch e))) (s_letO (i := 2) (oM (κ := Str) pInt) sc_merged_fit.nd (o_kd (E := fun (b_ : Unit) => (oM (κ := Str) pInt) a1) (x_dictD (κ := Str) (Ee := pInt) m_dict (x_var (p := (pM (κ := Str) pInt) a1) 0) (fun _ => rdMF))) fun (b23 : Unit) x22 v25 G24 => s_T (T := (M__next_mover x22 a2).bind fun r26 => (some (r26 : Option Str)).bind fun x27 => (whL wfuel (fun s29 => if (!((s29.1).isNone)) = true then (((s29.1)).bind fun u33 => (dget a2 u33).bind fun x34 => ((s29.1)).bind fun u35 => grd ((s29.2).length < sizeLine) ((M__next_mover (dput (s29.2) u35 x34) a2).bind fun r37 => (some (r37 : Option Str)).bind fun x38 => some (Bo.nx (x38, (dput (s29.2) u35 x34))))).bind (fun o_ => some (some o_)) else some none) ((x27, x22) : (Option Str) × (List (Str × Int)))).bind (boK (fun s30 => some (s30.2)) (fun e : Empty => nomatch e))) (s_let (i := 3) (pOp pStr) sc_merged_fit.nd (x_kd (E := fun (b_ : ((Unit × Unit) × (Option Str))) => (pOp pStr) b_.2) (x_lockG (d := (oM (κ := Str) pInt) x22) 0 2 (feOp feS) (x_FF_f (kk := 2) (E1 := (pM (κ := Str) pInt)) (E2 := (pM (κ := Str) pInt)) k__next_mover (hr.mono (by decide)) g__next_mover F__next_mover.kp b__next_mover (x_var (p := (pM (κ := Str) pInt) x22) 2) (fun _ => x_var (p := (pM (κ := Str) pInt) a2) 1)))) fun (b28 : ((Unit × Unit) × (Option Str))) x27 => s_T (T := (whL wfuel (fun s29 => if (!((s29.1).isNone)) = true then (((s29.1)).bind fun u33 => (dget a2 u33).bind fun x34 => ((s29.1)).bind fun u35 => grd ((s29.2).length < sizeLine) ((M__next_mover (dput (s29.2) u35 x34) a2).bind fun r37 => (some (r37 : Option Str)).bind fun x38 => some (Bo.nx (x38, (dput (s29.2) u35 x34))))).bind (fun o_ => some (some o_)) else some none) ((x27, x22) : (Option Str) × (List (Str × Int)))).bind (boK (fun s30 => some (s30.2)) (fun e : Empty => nomatch e))) (s_while (β := Unit) (st := fun (s_ : (Option Str) × (List (Str × Int))) => if (!((s_.1).isNone)) = true then (((s_.1)).bind fun u33 => (dget a2 u33).bind fun x34 => ((s_.1)).bind fun u35 => grd ((s_.2).length < sizeLine) ((M__next_mover (dput (s_.2) u35 x34) a2).bind fun r37 => (some (r37 : Option Str)).bind fun x38 => some (Bo.nx (x38, (dput (s_.2) u35 x34))))).bind (fun o_ => some (some o_)) else some none) (c := fun (s_ : (Option Str) × (List (Str × Int))) (b_ : Unit) => (!((s_.1).isNone))) (f := fun (s_ : (Option Str) × (List (Str × Int))) (b_ : Unit) => ((s_.1)).bind fun u33 => (dget a2 u33).bind fun x34 => ((s_.1)).bind fun u35 => grd ((s_.2).length < sizeLine) ((M__next_mover (dput (s_.2) u35 x34) a2).bind fun r37 => (some (r37 : Option Str)).bind fun x38 => some (Bo.nx (x38, (dput (s_.2) u35 x34))))) (ι := (fun e : Empty => nomatch e)) (R := (fun (_ : Empty) _ => False)) PassesOwn.never (fun (s_ : (Option Str) × (List (Str × Int))) => ([some ((pM (κ := Str) pInt) a1), some ((pM (κ := Str) pInt) a2), some (pV v25), some ((pOp pStr) s_.1)], [⟨G24, v25, (oM (κ := Str) pInt) s_.2, false⟩])) ((x27, x22) : (Option Str) × (List (Str × Int))) rfl (fun s29 => t_T (t_kd (c := fun (b_ : Unit) => (!((s29.1).isNone))) (t_notN nnStr (x_var (p := (pOp pStr) s29.1) 3))) (by rfl)) ⟨rfl, rfl, rfl, rfl, trivial⟩ (List.Sublist.refl _) (fun s29 b31 => s_T (T := ((s29.1)).bind fun u33 => (dget a2 u33).bind fun x34 => ((s29.1)).bind fun u35 => grd ((s29.2).length < sizeLine) ((M__next_mover (dput (s29.2) u35 x34) a2).bind fun r37 => (some (r37 : Option Str)).bind fun x38 => some (Bo.nx (x38, (dput (s29.2) u35 x34))))) (s_dput (κ := Str) (Ee := pInt) 0 hr.units (x_kd (E := fun (b_ : ((Unit × (Unit × Str)) × Int)) => pInt b_.2) (x_dget (κ := Str) (Ee := pInt) hr.units (x_var (p := (pM (κ := Str) pInt) a2) 1) (fun _ => x_some (Ee := pStr) (x_var (p := (pOp pStr) s29.1) 3)) (fun _ _ => rdMF))) (fun _ => x_var (p := pV v25) 2) (fun _ _ => x_some (Ee := pStr) (x_var (p := (pOp pStr) s29.1) 3)) (fun _ _ _ => rfl) fun (b36 : ((((Unit × (Unit × Str)) × Int) × Unit) × (Unit × Str))) => s_T (T := (M__next_mover (dput (s29.2) b36.2.2 b36.1.1.2) a2).bind fun r37 => (some (r37 : Option Str)).bind fun x38 => some (Bo.nx (x38, (dput (s29.2) b36.2.2 b36.1.1.2)))) (s_let (i := 3) (pOp pStr) sc_merged_fit.nd (x_kd (E := fun (b_ : ((Unit × Unit) × (Option Str))) => (pOp pStr) b_.2) (x_lockG (d := (oM (κ := Str) pInt) (dput (s29.2) b36.2.2 b36.1.1.2)) 0 2 (feOp feS) (x_FF_f (kk := 2) (E1 := (pM (κ := Str) pInt)) (E2 := (pM (κ := Str) pInt)) k__next_mover (hr.mono (by decide)) g__next_mover F__next_mover.kp b__next_mover (x_var (p := (pM (κ := Str) pInt) (dput (s29.2) b36.2.2 b36.1.1.2)) 2) (fun _ => x_var (p := (pM (κ := Str) pInt) a2) 1)))) fun (b39 : ((Unit × Unit) × (Option Str))) x38 => s_endB (x38, (dput (s29.2) b36.2.2 b36.1.1.2)) ⟨rfl, rfl, rfl, rfl, trivial⟩ (List.Sublist.refl _)))) (fun s30 => s_T (T := some (s30.2)) (s_retV 0 (P := (fun _ => [])) (Ro := (oM (κ := Str) pInt)) (ι := id) (rv := fun _ => s30.2) (fun _ _ _ h => h) (x_var (p := pV v25) 2) (fun _ => rfl) (fun _ => List.Sublist.refl _))) (fun _ r => nomatch r))))) (by unfold M_merged_fit; rfl)
end
end My
end
section
set_option Elab.async false
set_option linter.all false
set_option maxRecDepth 100000
set_option maxHeartbeats 4000000
set_option pp.maxSteps 200
namespace My
open PySem PySem.Spec PyProof.Rows L2 L3
section
variable {P : Program} {w : World} {K : PySem.W.Frag} {mg : Str → Option Value} {base : Heap}
theorem sc_l_is_integer : FnScope ["_law_actual"] ["_law_actual"] (defScope (top 5)) := ⟨rfl, rfl, rfl, by decide +kernel, rfl, by decide +kernel, by decide +kernel⟩
theorem ok_l_is_integer {f : Addr} {fd : FuncData} (C : Ev K mg) (FD : FnP K "_law_is_integer" (top 5) f fd)   : FnOk P w K mg base CX0 1 f fd ["_law_actual"] (Sp_F_f pInt M_l_is_integer pBl) := by
  have m_bool := C.m_bool
  have m_int := C.m_int
  have m_isinstance := C.m_isinstance
  refine fn_F_f FD sc_l_is_integer rfl fun cdv A outer s H E hr  a1 => ?_
  exact s_is (s_T (T := some (true && (!false))) (s_ret (P := (fun _ => [])) (Rp := pBl) (ι := id) (rv := fun (b : Unit) => (true && (!false))) (fun _ _ _ h => h) (x_kd (E := fun (b_ : Unit) => pBl (true && (!false))) (v_and (x_totV (pBl true) () (fun _ => rfl) (by exact (x_kd (E := fun (b_ : Unit) => pBl true) (x_isi (cn := "int") (fun _ => "int") (fun _ => true) m_isinstance m_int (y_var (p := pInt a1) 0) (fun _ => tyInt) (fun _ => by decide +kernel) (by decide +kernel))))) (v_one (x_totV (pBl (!false)) () (fun _ => rfl) (by exact (x_kd (E := fun (b_ : Unit) => pBl (!false)) (x_not (x_kd (E := fun (b_ : Unit) => pBl false) (x_isi (cn := "bool") (fun _ => "int") (fun _ => false) m_isinstance m_bool (y_var (p := pInt a1) 0) (fun _ => tyInt) (fun _ => by decide +kernel) (by decide +kernel)))))))))) (fun _ => List.Sublist.refl _))) (by unfold M_l_is_integer; rfl)
end
end My
end
section
set_option Elab.async false
set_option linter.all false
set_option maxRecDepth 100000
set_option maxHeartbeats 4000000
set_option pp.maxSteps 200
namespace My
open PySem PySem.Spec PyProof.Rows L2 L3
section
variable {P : Program} {w : World} {K : PySem.W.Frag} {mg : Str → Option Value} {base : Heap}
theorem sc_l_stream : FnScope ["_law_script", "_law_k", "_law_cell"] ["_law_script", "_law_k"] (defScope (top 6)) := ⟨rfl, rfl, rfl, by decide +kernel, rfl, by decide +kernel, by decide +kernel⟩
theorem ok_l_stream {f : Addr} {fd : FuncData} (C : Ev K mg) (FD : FnP K "_law_stream" (top 6) f fd)   : FnOk P w K mg base CX0 1 f fd ["_law_script", "_law_k"] (Sp_FF_o (pS K) pInt M_l_stream (oL pInt)) := by
  have m_int := C.m_int
  have m_len := C.m_len
  refine fn_FF_o FD sc_l_stream rfl fun cdv A outer s H E hr  a1 a2 => ?_
  exact s_is (s_T (T := (some ((0 : Int) : Int)).bind fun x40 => (if (decide (a2 < (a1.length : Int))) = true then (atI a1 a2).bind fun x44 => (some (x44 : Int)).bind fun x45 => some x45 else some x40).bind fun s43 => grd ((sm s43 || sm (if (decide (((10 : Int) ^ (18 : Int).toNat) ≤ s43)) then 1 else 0 : Int)) = true) (some ([(s43 * (if (decide (((10 : Int) ^ (18 : Int).toNat) ≤ s43)) then 1 else 0 : Int)), (0 : Int), s43]))) (s_let (i := 2) pInt sc_l_stream.nd (x_int (i := 0)) fun (b41 : Unit) x40 => s_T (T := (if (decide (a2 < (a1.length : Int))) = true then (atI a1 a2).bind fun x44 => (some (x44 : Int)).bind fun x45 => some x45 else some x40).bind fun s43 => grd ((sm s43 || sm (if (decide (((10 : Int) ^ (18 : Int).toNat) ≤ s43)) then 1 else 0 : Int)) = true) (some ([(s43 * (if (decide (((10 : Int) ^ (18 : Int).toNat) ≤ s43)) then 1 else 0 : Int)), (0 : Int), s43]))) (s_ifN (C := fun s_ : Int => ([some ((pS K) a1), some (pInt a2), some (pInt s_)], [])) (t_kd (c := fun (b_ : (Unit × Unit)) => (decide (a2 < (a1.length : Int)))) (t_lt (x_var (p := pInt a2) 1) (fun _ => x_kd (E := fun (b_ : Unit) => pInt (a1.length : Int)) (x_lenS m_len (x_var (p := (pS K) a1) 0))))) (fun (b42 : (Unit × Unit)) => s_T (T := (atI a1 a2).bind fun x44 => (some (x44 : Int)).bind fun x45 => some x45) (s_let (i := 2) pInt sc_l_stream.nd (x_kd (E := fun (b_ : ((Unit × Unit) × Int)) => pInt b_.2) (x_ixS (x_var (p := (pS K) a1) 0) (fun _ => x_var (p := pInt a2) 1))) fun (b46 : ((Unit × Unit) × Int)) x45 => s_end x45 rfl ⟨rfl, rfl, rfl, trivial⟩ (List.Sublist.refl _))) (fun (b42 : (Unit × Unit)) => s_end x40 rfl ⟨rfl, rfl, rfl, trivial⟩ (List.Sublist.refl _)) fun (b42 : (Unit × Unit)) s43 => s_T (T := grd ((sm s43 || sm (if (decide (((10 : Int) ^ (18 : Int).toNat) ≤ s43)) then 1 else 0 : Int)) = true) (some ([(s43 * (if (decide (((10 : Int) ^ (18 : Int).toNat) ≤ s43)) then 1 else 0 : Int)), (0 : Int), s43]))) (s_retO (P := (fun _ => [])) (Ro := (oL pInt)) (ι := id) (rv := fun (b : ((Unit × (Unit × (Unit × Unit))) × (Unit × (Unit × Unit)))) => [(s43 * (if (decide (((10 : Int) ^ (18 : Int).toNat) ≤ s43)) then 1 else 0 : Int)), (0 : Int), s43]) (fun _ _ _ h => h) (o_kd (o_kd (E := fun (b_ : ((Unit × (Unit × (Unit × Unit))) × (Unit × (Unit × Unit)))) => (oL pInt) ([(s43 * (if (decide (((10 : Int) ^ (18 : Int).toNat) ≤ s43)) then 1 else 0 : Int)), (0 : Int), s43])) (x_disp pInt (fun _ => [_, _, _]) (a_cons (x_kd (E := fun (b_ : (Unit × (Unit × (Unit × Unit)))) => pInt (s43 * (if (decide (((10 : Int) ^ (18 : Int).toNat) ≤ s43)) then 1 else 0 : Int))) (x_mul (x_var (p := pInt s43) 2) (fun _ => x_kd (E := fun (b_ : (Unit × (Unit × Unit))) => pInt (if (decide (((10 : Int) ^ (18 : Int).toNat) ≤ s43)) then 1 else 0 : Int)) (x_intB m_int (x_kd (E := fun (b_ : (Unit × (Unit × Unit))) => pBl (decide (((10 : Int) ^ (18 : Int).toNat) ≤ s43))) (x_ge (x_var (p := pInt s43) 2) (fun _ => x_kd (E := fun (b_ : (Unit × Unit)) => pInt ((10 : Int) ^ (18 : Int).toNat)) (x_pow (x_int (i := 10)) (fun _ => x_int (i := 18)) (fun _ _ => by decide))))))))) (fun _ => a_cons (x_int (i := 0)) (fun _ => a_cons (x_var (p := pInt s43) 2) (fun _ => a_nil)))) (fun _ => rfl) (fun _ => by simp)))) (fun _ => List.Sublist.refl _))))) (by unfold M_l_stream; rfl)
end
end My
end
section
set_option Elab.async false
set_option linter.all false
set_option maxRecDepth 100000
set_option maxHeartbeats 4000000
set_option pp.maxSteps 200
namespace My
open PySem PySem.Spec PyProof.Rows L2 L3
section
variable {P : Program} {w : World} {K : PySem.W.Frag} {mg : Str → Option Value} {base : Heap}
theorem sc_l_next : FnScope ["_law_stream_here", "_law_size", "_law_mixed", "_law_digit"] ["_law_stream_here", "_law_size"] (defScope (top 7)) := ⟨rfl, rfl, rfl, by decide +kernel, rfl, by decide +kernel, by decide +kernel⟩
theorem ok_l_next {f : Addr} {fd : FuncData} (C : Ev K mg) (FD : FnP K "_law_next" (top 7) f fd)   : FnOk P w K mg base CX0 1 f fd ["_law_stream_here", "_law_size"] (Sp_OF_f (oL pInt) pInt M_l_next pInt) := by
  have m_int := C.m_int
  refine fn_OF_f FD sc_l_next rfl fun cdv A outer s H E hr v1 G1 a1 a2 => ?_
  exact s_is (s_T (T := (atI a1 (1 : Int)).bind fun x47 => (ixN a1.length (1 : Int)).bind fun (_ : Nat) => (atI (a1.set ((ixN a1.length (1 : Int)).getD 0) (x47 + (1 : Int))) (0 : Int)).bind fun x49 => if (decide ((0 : Int) < x49)) = true then (atI (a1.set ((ixN a1.length (1 : Int)).getD 0) (x47 + (1 : Int))) (0 : Int)).bind fun x51 => grd (0 < a2) ((some ((x51 % a2) : Int)).bind fun x52 => (atI (a1.set ((ixN a1.length (1 : Int)).getD 0) (x47 + (1 : Int))) (0 : Int)).bind fun x54 => grd (dv a2 = true) ((ixN (a1.set ((ixN a1.length (1 : Int)).getD 0) (x47 + (1 : Int))).length (0 : Int)).bind fun (_ : Nat) => some (x52, ((a1.set ((ixN a1.length (1 : Int)).getD 0) (x47 + (1 : Int))).set ((ixN (a1.set ((ixN a1.length (1 : Int)).getD 0) (x47 + (1 : Int))).length (0 : Int)).getD 0) (x54 / a2))))) else (atI (a1.set ((ixN a1.length (1 : Int)).getD 0) (x47 + (1 : Int))) (2 : Int)).bind fun x56 => (atI (a1.set ((ixN a1.length (1 : Int)).getD 0) (x47 + (1 : Int))) (1 : Int)).bind fun x57 => grd ((sm (7919 : Int) || sm x57) = true) (grd (0 < (2147483647 : Int)) ((some ((((x56 + ((7919 : Int) * x57)) + (13 : Int)) % (2147483647 : Int)) : Int)).bind fun x58 => grd ((sm x58 || sm (x58 + (48271 : Int))) = true) (grd (0 < (2147483629 : Int)) ((some (((x58 * (x58 + (48271 : Int))) % (2147483629 : Int)) : Int)).bind fun x60 => grd ((sm x60 || sm (x60 + (69621 : Int))) = true) ((atI (a1.set ((ixN a1.length (1 : Int)).getD 0) (x47 + (1 : Int))) (1 : Int)).bind fun x62 => grd ((sm (31 : Int) || sm x62) = true) (grd (0 < (2147483647 : Int)) ((some ((((x60 * (x60 + (69621 : Int))) + ((31 : Int) * x62)) % (2147483647 : Int)) : Int)).bind fun x63 => grd (dv (9 : Int) = true) (grd (0 < a2) (some (((x63 / (9 : Int)) % a2), (a1.set ((ixN a1.length (1 : Int)).getD 0) (x47 + (1 : Int)))))))))))))) (s_setL 0 (x_kd (E := fun (b_ : (((Unit × Unit) × Int) × Unit)) => pInt (b_.1.2 + (1 : Int))) (x_add (x_kd (E := fun (b_ : ((Unit × Unit) × Int)) => pInt b_.2) (x_ixL (Ee := pInt) (x_var (p := pV v1) 0) (fun _ => x_int (i := 1)) (fun _ _ => rdO 0))) (fun _ => x_int (i := 1)))) (fun _ => x_var (p := pV v1) 0) (fun _ _ => x_int (i := 1)) (fun _ _ _ => rfl) fun (b48 : (((((Unit × Unit) × Int) × Unit) × Unit) × Unit)) => s_T (T := (atI (a1.set ((ixN a1.length (1 : Int)).getD 0) (b48.1.1.1.2 + (1 : Int))) (0 : Int)).bind fun x49 => if (decide ((0 : Int) < x49)) = true then (atI (a1.set ((ixN a1.length (1 : Int)).getD 0) (b48.1.1.1.2 + (1 : Int))) (0 : Int)).bind fun x51 => grd (0 < a2) ((some ((x51 % a2) : Int)).bind fun x52 => (atI (a1.set ((ixN a1.length (1 : Int)).getD 0) (b48.1.1.1.2 + (1 : Int))) (0 : Int)).bind fun x54 => grd (dv a2 = true) ((ixN (a1.set ((ixN a1.length (1 : Int)).getD 0) (b48.1.1.1.2 + (1 : Int))).length (0 : Int)).bind fun (_ : Nat) => some (x52, ((a1.set ((ixN a1.length (1 : Int)).getD 0) (b48.1.1.1.2 + (1 : Int))).set ((ixN (a1.set ((ixN a1.length (1 : Int)).getD 0) (b48.1.1.1.2 + (1 : Int))).length (0 : Int)).getD 0) (x54 / a2))))) else (atI (a1.set ((ixN a1.length (1 : Int)).getD 0) (b48.1.1.1.2 + (1 : Int))) (2 : Int)).bind fun x56 => (atI (a1.set ((ixN a1.length (1 : Int)).getD 0) (b48.1.1.1.2 + (1 : Int))) (1 : Int)).bind fun x57 => grd ((sm (7919 : Int) || sm x57) = true) (grd (0 < (2147483647 : Int)) ((some ((((x56 + ((7919 : Int) * x57)) + (13 : Int)) % (2147483647 : Int)) : Int)).bind fun x58 => grd ((sm x58 || sm (x58 + (48271 : Int))) = true) (grd (0 < (2147483629 : Int)) ((some (((x58 * (x58 + (48271 : Int))) % (2147483629 : Int)) : Int)).bind fun x60 => grd ((sm x60 || sm (x60 + (69621 : Int))) = true) ((atI (a1.set ((ixN a1.length (1 : Int)).getD 0) (b48.1.1.1.2 + (1 : Int))) (1 : Int)).bind fun x62 => grd ((sm (31 : Int) || sm x62) = true) (grd (0 < (2147483647 : Int)) ((some ((((x60 * (x60 + (69621 : Int))) + ((31 : Int) * x62)) % (2147483647 : Int)) : Int)).bind fun x63 => grd (dv (9 : Int) = true) (grd (0 < a2) (some (((x63 / (9 : Int)) % a2), (a1.set ((ixN a1.length (1 : Int)).getD 0) (b48.1.1.1.2 + (1 : Int)))))))))))))) (s_ifT (ins_F _) (t_kd (c := fun (b_ : (((Unit × Unit) × Int) × Unit)) => (decide ((0 : Int) < b_.1.2))) (t_gt (x_kd (E := fun (b_ : ((Unit × Unit) × Int)) => pInt b_.2) (x_ixL (Ee := pInt) (x_var (p := pV v1) 0) (fun _ => x_int (i := 0)) (fun _ _ => rdO 0))) (fun _ => x_int (i := 0)))) (fun (b50 : (((Unit × Unit) × Int) × Unit)) => s_T (T := (atI (a1.set ((ixN a1.length (1 : Int)).getD 0) (b48.1.1.1.2 + (1 : Int))) (0 : Int)).bind fun x51 => grd (0 < a2) ((some ((x51 % a2) : Int)).bind fun x52 => (atI (a1.set ((ixN a1.length (1 : Int)).getD 0) (b48.1.1.1.2 + (1 : Int))) (0 : Int)).bind fun x54 => grd (dv a2 = true) ((ixN (a1.set ((ixN a1.length (1 : Int)).getD 0) (b48.1.1.1.2 + (1 : Int))).length (0 : Int)).bind fun (_ : Nat) => some (x52, ((a1.set ((ixN a1.length (1 : Int)).getD 0) (b48.1.1.1.2 + (1 : Int))).set ((ixN (a1.set ((ixN a1.length (1 : Int)).getD 0) (b48.1.1.1.2 + (1 : Int))).length (0 : Int)).getD 0) (x54 / a2)))))) (s_let (i := 3) pInt sc_l_next.nd (x_kd (E := fun (b_ : (((Unit × Unit) × Int) × Unit)) => pInt (b_.1.2 % a2)) (x_mod (x_kd (E := fun (b_ : ((Unit × Unit) × Int)) => pInt b_.2) (x_intI m_int (x_kd (E := fun (b_ : ((Unit × Unit) × Int)) => pInt b_.2) (x_ixL (Ee := pInt) (x_var (p := pV v1) 0) (fun _ => x_int (i := 0)) (fun _ _ => rdO 0))))) (fun _ => x_var (p := pInt a2) 1))) fun (b53 : (((Unit × Unit) × Int) × Unit)) x52 => s_T (T := (atI (a1.set ((ixN a1.length (1 : Int)).getD 0) (b48.1.1.1.2 + (1 : Int))) (0 : Int)).bind fun x54 => grd (dv a2 = true) ((ixN (a1.set ((ixN a1.length (1 : Int)).getD 0) (b48.1.1.1.2 + (1 : Int))).length (0 : Int)).bind fun (_ : Nat) => some (x52, ((a1.set ((ixN a1.length (1 : Int)).getD 0) (b48.1.1.1.2 + (1 : Int))).set ((ixN (a1.set ((ixN a1.length (1 : Int)).getD 0) (b48.1.1.1.2 + (1 : Int))).length (0 : Int)).getD 0) (x54 / a2))))) (s_setL 0 (x_kd (E := fun (b_ : (((Unit × Unit) × Int) × Unit)) => pInt (b_.1.2 / a2)) (x_fdiv (x_kd (E := fun (b_ : ((Unit × Unit) × Int)) => pInt b_.2) (x_ixL (Ee := pInt) (x_var (p := pV v1) 0) (fun _ => x_int (i := 0)) (fun _ _ => rdO 0))) (fun _ => x_var (p := pInt a2) 1))) (fun _ => x_var (p := pV v1) 0) (fun _ _ => x_int (i := 0)) (fun _ _ _ => rfl) fun (b55 : (((((Unit × Unit) × Int) × Unit) × Unit) × Unit)) => s_T (T := some (x52, ((a1.set ((ixN a1.length (1 : Int)).getD 0) (b48.1.1.1.2 + (1 : Int))).set ((ixN (a1.set ((ixN a1.length (1 : Int)).getD 0) (b48.1.1.1.2 + (1 : Int))).length (0 : Int)).getD 0) (b55.1.1.1.2 / a2)))) (s_ret (P := (fun (r : Int × (List Int)) => [⟨G1, v1, (oL pInt) r.2, true⟩])) (Rp := (fun (r : Int × (List Int)) => pInt r.1)) (ι := id) (rv := fun (b : Unit) => (x52, ((a1.set ((ixN a1.length (1 : Int)).getD 0) (b48.1.1.1.2 + (1 : Int))).set ((ixN (a1.set ((ixN a1.length (1 : Int)).getD 0) (b48.1.1.1.2 + (1 : Int))).length (0 : Int)).getD 0) (b55.1.1.1.2 / a2)))) (fun _ _ _ h => h) (x_var (p := pInt x52) 3) (fun _ => List.Sublist.refl _))))) fun (b50 : (((Unit × Unit) × Int) × Unit)) => s_T (T := (atI (a1.set ((ixN a1.length (1 : Int)).getD 0) (b48.1.1.1.2 + (1 : Int))) (2 : Int)).bind fun x56 => (atI (a1.set ((ixN a1.length (1 : Int)).getD 0) (b48.1.1.1.2 + (1 : Int))) (1 : Int)).bind fun x57 => grd ((sm (7919 : Int) || sm x57) = true) (grd (0 < (2147483647 : Int)) ((some ((((x56 + ((7919 : Int) * x57)) + (13 : Int)) % (2147483647 : Int)) : Int)).bind fun x58 => grd ((sm x58 || sm (x58 + (48271 : Int))) = true) (grd (0 < (2147483629 : Int)) ((some (((x58 * (x58 + (48271 : Int))) % (2147483629 : Int)) : Int)).bind fun x60 => grd ((sm x60 || sm (x60 + (69621 : Int))) = true) ((atI (a1.set ((ixN a1.length (1 : Int)).getD 0) (b48.1.1.1.2 + (1 : Int))) (1 : Int)).bind fun x62 => grd ((sm (31 : Int) || sm x62) = true) (grd (0 < (2147483647 : Int)) ((some ((((x60 * (x60 + (69621 : Int))) + ((31 : Int) * x62)) % (2147483647 : Int)) : Int)).bind fun x63 => grd (dv (9 : Int) = true) (grd (0 < a2) (some (((x63 / (9 : Int)) % a2), (a1.set ((ixN a1.length (1 : Int)).getD 0) (b48.1.1.1.2 + (1 : Int)))))))))))))) (s_let (i := 2) pInt sc_l_next.nd (x_kd (E := fun (b_ : (((((Unit × Unit) × Int) × (Unit × ((Unit × Unit) × Int))) × Unit) × Unit)) => pInt (((b_.1.1.1.2 + ((7919 : Int) * b_.1.1.2.2.2)) + (13 : Int)) % (2147483647 : Int))) (x_mod (x_kd (E := fun (b_ : ((((Unit × Unit) × Int) × (Unit × ((Unit × Unit) × Int))) × Unit)) => pInt ((b_.1.1.2 + ((7919 : Int) * b_.1.2.2.2)) + (13 : Int))) (x_intI m_int (x_kd (E := fun (b_ : ((((Unit × Unit) × Int) × (Unit × ((Unit × Unit) × Int))) × Unit)) => pInt ((b_.1.1.2 + ((7919 : Int) * b_.1.2.2.2)) + (13 : Int))) (x_add (x_kd (E := fun (b_ : (((Unit × Unit) × Int) × (Unit × ((Unit × Unit) × Int)))) => pInt (b_.1.2 + ((7919 : Int) * b_.2.2.2))) (x_add (x_kd (E := fun (b_ : ((Unit × Unit) × Int)) => pInt b_.2) (x_ixL (Ee := pInt) (x_var (p := pV v1) 0) (fun _ => x_int (i := 2)) (fun _ _ => rdO 0))) (fun _ => x_kd (E := fun (b_ : (Unit × ((Unit × Unit) × Int))) => pInt ((7919 : Int) * b_.2.2)) (x_mul (x_int (i := 7919)) (fun _ => x_kd (E := fun (b_ : ((Unit × Unit) × Int)) => pInt b_.2) (x_ixL (Ee := pInt) (x_var (p := pV v1) 0) (fun _ => x_int (i := 1)) (fun _ _ => rdO 0))))))) (fun _ => x_int (i := 13)))))) (fun _ => x_int (i := 2147483647)))) fun (b59 : (((((Unit × Unit) × Int) × (Unit × ((Unit × Unit) × Int))) × Unit) × Unit)) x58 => s_T (T := grd ((sm x58 || sm (x58 + (48271 : Int))) = true) (grd (0 < (2147483629 : Int)) ((some (((x58 * (x58 + (48271 : Int))) % (2147483629 : Int)) : Int)).bind fun x60 => grd ((sm x60 || sm (x60 + (69621 : Int))) = true) ((atI (a1.set ((ixN a1.length (1 : Int)).getD 0) (b48.1.1.1.2 + (1 : Int))) (1 : Int)).bind fun x62 => grd ((sm (31 : Int) || sm x62) = true) (grd (0 < (2147483647 : Int)) ((some ((((x60 * (x60 + (69621 : Int))) + ((31 : Int) * x62)) % (2147483647 : Int)) : Int)).bind fun x63 => grd (dv (9 : Int) = true) (grd (0 < a2) (some (((x63 / (9 : Int)) % a2), (a1.set ((ixN a1.length (1 : Int)).getD 0) (b48.1.1.1.2 + (1 : Int)))))))))))) (s_let (i := 2) pInt sc_l_next.nd (x_kd (E := fun (b_ : ((Unit × (Unit × Unit)) × Unit)) => pInt ((x58 * (x58 + (48271 : Int))) % (2147483629 : Int))) (x_mod (x_kd (E := fun (b_ : (Unit × (Unit × Unit))) => pInt (x58 * (x58 + (48271 : Int)))) (x_intI m_int (x_kd (E := fun (b_ : (Unit × (Unit × Unit))) => pInt (x58 * (x58 + (48271 : Int)))) (x_mul (x_var (p := pInt x58) 2) (fun _ => x_kd (E := fun (b_ : (Unit × Unit)) => pInt (x58 + (48271 : Int))) (x_add (x_var (p := pInt x58) 2) (fun _ => x_int (i := 48271)))))))) (fun _ => x_int (i := 2147483629)))) fun (b61 : ((Unit × (Unit × Unit)) × Unit)) x60 => s_T (T := grd ((sm x60 || sm (x60 + (69621 : Int))) = true) ((atI (a1.set ((ixN a1.length (1 : Int)).getD 0) (b48.1.1.1.2 + (1 : Int))) (1 : Int)).bind fun x62 => grd ((sm (31 : Int) || sm x62) = true) (grd (0 < (2147483647 : Int)) ((some ((((x60 * (x60 + (69621 : Int))) + ((31 : Int) * x62)) % (2147483647 : Int)) : Int)).bind fun x63 => grd (dv (9 : Int) = true) (grd (0 < a2) (some (((x63 / (9 : Int)) % a2), (a1.set ((ixN a1.length (1 : Int)).getD 0) (b48.1.1.1.2 + (1 : Int)))))))))) (s_let (i := 2) pInt sc_l_next.nd (x_kd (E := fun (b_ : (((Unit × (Unit × Unit)) × (Unit × ((Unit × Unit) × Int))) × Unit)) => pInt (((x60 * (x60 + (69621 : Int))) + ((31 : Int) * b_.1.2.2.2)) % (2147483647 : Int))) (x_mod (x_kd (E := fun (b_ : ((Unit × (Unit × Unit)) × (Unit × ((Unit × Unit) × Int)))) => pInt ((x60 * (x60 + (69621 : Int))) + ((31 : Int) * b_.2.2.2))) (x_intI m_int (x_kd (E := fun (b_ : ((Unit × (Unit × Unit)) × (Unit × ((Unit × Unit) × Int)))) => pInt ((x60 * (x60 + (69621 : Int))) + ((31 : Int) * b_.2.2.2))) (x_add (x_kd (E := fun (b_ : (Unit × (Unit × Unit))) => pInt (x60 * (x60 + (69621 : Int)))) (x_mul (x_var (p := pInt x60) 2) (fun _ => x_kd (E := fun (b_ : (Unit × Unit)) => pInt (x60 + (69621 : Int))) (x_add (x_var (p := pInt x60) 2) (fun _ => x_int (i := 69621)))))) (fun _ => x_kd (E := fun (b_ : (Unit × ((Unit × Unit) × Int))) => pInt ((31 : Int) * b_.2.2)) (x_mul (x_int (i := 31)) (fun _ => x_kd (E := fun (b_ : ((Unit × Unit) × Int)) => pInt b_.2) (x_ixL (Ee := pInt) (x_var (p := pV v1) 0) (fun _ => x_int (i := 1)) (fun _ _ => rdO 0))))))))) (fun _ => x_int (i := 2147483647)))) fun (b64 : (((Unit × (Unit × Unit)) × (Unit × ((Unit × Unit) × Int))) × Unit)) x63 => s_T (T := grd (dv (9 : Int) = true) (grd (0 < a2) (some (((x63 / (9 : Int)) % a2), (a1.set ((ixN a1.length (1 : Int)).getD 0) (b48.1.1.1.2 + (1 : Int))))))) (s_ret (P := (fun (r : Int × (List Int)) => [⟨G1, v1, (oL pInt) r.2, true⟩])) (Rp := (fun (r : Int × (List Int)) => pInt r.1)) (ι := id) (rv := fun (b : ((Unit × Unit) × Unit)) => (((x63 / (9 : Int)) % a2), (a1.set ((ixN a1.length (1 : Int)).getD 0) (b48.1.1.1.2 + (1 : Int))))) (fun _ _ _ h => h) (x_kd (x_kd (E := fun (b_ : ((Unit × Unit) × Unit)) => pInt ((x63 / (9 : Int)) % a2)) (x_mod (x_kd (E := fun (b_ : (Unit × Unit)) => pInt (x63 / (9 : Int))) (x_intI m_int (x_kd (E := fun (b_ : (Unit × Unit)) => pInt (x63 / (9 : Int))) (x_fdiv (x_var (p := pInt x63) 2) (fun _ => x_int (i := 9)))))) (fun _ => x_var (p := pInt a2) 1)))) (fun _ => List.Sublist.refl _)))))))) (by unfold M_l_next; rfl)
end
end My
end
section
set_option Elab.async false
set_option linter.all false
set_option maxRecDepth 100000
set_option maxHeartbeats 4000000
set_option pp.maxSteps 200
namespace My
open PySem PySem.Spec PyProof.Rows L2 L3
section
variable {P : Program} {w : World} {K : PySem.W.Frag} {mg : Str → Option Value} {base : Heap}
theorem sc_l_names : FnScope ["_law_stream_here", "_law_count", "_law_letters", "_law_names_here", "_law_k", "_law_shift", "_law_plain", "_law_at", "_law_size", "_law_tail"] ["_law_stream_here", "_law_count"] (defScope (top 8)) := ⟨rfl, rfl, rfl, by decide +kernel, rfl, by decide +kernel, by decide +kernel⟩
theorem ok_l_names {f : Addr} {fd : FuncData} (C : Ev K mg) (FD : FnP K "_law_names" (top 8) f fd)   : FnOk P w K mg base CX0 2 f fd ["_law_stream_here", "_law_count"] (Sp_OF_o (oL pInt) pInt M_l_names (oL pStr)) := by
  have m_int := C.m_int
  have m_range := C.m_range
  obtain ⟨f_l_next, fd_l_next, F_l_next, g_l_next⟩ := C.f_l_next
  have k_l_next := ok_l_next (P := P) (w := w) (base := base) C F_l_next
  have b_l_next : Binds K fd_l_next ["_law_stream_here", "_law_size"] [] := F_l_next.bindsN fun _ _ _ _ _ _ us hl => match us, hl with | [_, _], _ => rfl
  refine fn_OF_o FD sc_l_names rfl fun cdv A outer s H E hr v1 G1 a1 a2 => ?_
  exact s_is (s_T (T := (M_l_next a1 (3 : Int)).bind fun r65 => if (decide ((r65.1) = (0 : Int))) = true then (M_l_next (r65.2) (8 : Int)).bind fun r67 => (some (r67.1 : Int)).bind fun x68 => (some ([("x" : Str), ("yard" : Str), ("z" : Str), ("u" : Str), ("wide_one" : Str), ("q" : Str), ("pp" : Str), ("t" : Str)] : List Str)).bind fun x70 => grd (rg a2 = true) ((compM (rngL 0 a2.toNat) () (fun x73 s75 => if true = true then grd ((sm x73 || sm (3 : Int)) = true) (grd (0 < (8 : Int)) ((atI x70 (((x73 * (3 : Int)) + x68) % (8 : Int))).bind fun x77 => some (some x77, ()))) else some (none, ()))).bind fun r78 => some (r78.1, r67.2)) else (some (("qwertyuiopasdfghjklzxcvbnm_zyx" : Str) : Str)).bind fun x79 => (some ([] : List Str)).bind fun x81 => grd (rg a2 = true) ((forS (rngL 0 a2.toNat) ((x81, r65.2) : (List Str) × (List Int)) fun x87 s86 => (M_l_next (s86.2) (26 : Int)).bind fun r90 => (some (r90.1 : Int)).bind fun x91 => (M_l_next (r90.2) (3 : Int)).bind fun r93 => (some (((1 : Int) + (r93.1)) : Int)).bind fun x94 => (M_l_next (r93.2) (3 : Int)).bind fun r96 => grd (x79.length ≤ sizeLine) ((some ((cutS x79 (some ((26 : Int) - (r96.1))) (some (26 : Int))) : Str)).bind fun x97 => grd (x79.length ≤ sizeLine) (grd (("7305186429" : Str).length ≤ sizeLine) ((atI ("7305186429" : Str).cps.toList x87).bind fun x99 => grd ((cutS x79 (some x91) (some (x91 + x94))).length + (⟨#[x99]⟩ : Str).length ≤ sizeLine) (grd (((cutS x79 (some x91) (some (x91 + x94))) ++ (⟨#[x99]⟩ : Str)).length + x97.length ≤ sizeLine) (grd ((s86.1).length < sizeLine) (some (((s86.1) ++ [(((cutS x79 (some x91) (some (x91 + x94))) ++ (⟨#[x99]⟩ : Str)) ++ x97)]), r96.2)))))))).bind fun s88 => some (s88.1, s88.2))) (s_ifT (ins_F _) (t_kd (c := fun (b_ : (((Unit × Unit) × (Int × (List Int))) × Unit)) => (decide ((b_.1.2.1) = (0 : Int)))) (t_eqI (x_kd (E := fun (b_ : ((Unit × Unit) × (Int × (List Int)))) => pInt b_.2.1) (x_OF_f (kk := 1) (E1 := (oL pInt)) (E2 := pInt) (s1 := fun (_ : Unit) (_ : Unit) => a1) (G1 := G1) (v1 := v1) k_l_next (hr.mono (by decide)) g_l_next F_l_next.kp b_l_next 0 (x_var (p := pV v1) 0) (fun _ => x_int (i := 3)) (fun _ _ => rfl) (hw_of 0))) (fun _ => x_int (i := 0)))) (fun (b66 : (((Unit × Unit) × (Int × (List Int))) × Unit)) => s_T (T := (M_l_next (b66.1.2.2) (8 : Int)).bind fun r67 => (some (r67.1 : Int)).bind fun x68 => (some ([("x" : Str), ("yard" : Str), ("z" : Str), ("u" : Str), ("wide_one" : Str), ("q" : Str), ("pp" : Str), ("t" : Str)] : List Str)).bind fun x70 => grd (rg a2 = true) ((compM (rngL 0 a2.toNat) () (fun x73 s75 => if true = true then grd ((sm x73 || sm (3 : Int)) = true) (grd (0 < (8 : Int)) ((atI x70 (((x73 * (3 : Int)) + x68) % (8 : Int))).bind fun x77 => some (some x77, ()))) else some (none, ()))).bind fun r78 => some (r78.1, r67.2))) (s_let (i := 5) pInt sc_l_names.nd (x_kd (E := fun (b_ : ((Unit × Unit) × (Int × (List Int)))) => pInt b_.2.1) (x_OF_f (kk := 1) (E1 := (oL pInt)) (E2 := pInt) (s1 := fun (_ : Unit) (_ : Unit) => b66.1.2.2) (G1 := G1) (v1 := v1) k_l_next (hr.mono (by decide)) g_l_next F_l_next.kp b_l_next 0 (x_var (p := pV v1) 0) (fun _ => x_int (i := 8)) (fun _ _ => rfl) (hw_of 0))) fun (b69 : ((Unit × Unit) × (Int × (List Int)))) x68 => s_T (T := (some ([("x" : Str), ("yard" : Str), ("z" : Str), ("u" : Str), ("wide_one" : Str), ("q" : Str), ("pp" : Str), ("t" : Str)] : List Str)).bind fun x70 => grd (rg a2 = true) ((compM (rngL 0 a2.toNat) () (fun x73 s75 => if true = true then grd ((sm x73 || sm (3 : Int)) = true) (grd (0 < (8 : Int)) ((atI x70 (((x73 * (3 : Int)) + x68) % (8 : Int))).bind fun x77 => some (some x77, ()))) else some (none, ()))).bind fun r78 => some (r78.1, b69.2.2))) (s_let (i := 6) (pL pStr) sc_l_names.nd (x_kd (E := fun (b_ : (Unit × (Unit × (Unit × (Unit × (Unit × (Unit × (Unit × (Unit × Unit))))))))) => (pL pStr) ([("x" : Str), ("yard" : Str), ("z" : Str), ("u" : Str), ("wide_one" : Str), ("q" : Str), ("pp" : Str), ("t" : Str)])) (x_frz (o_kd (E := fun (b_ : (Unit × (Unit × (Unit × (Unit × (Unit × (Unit × (Unit × (Unit × Unit))))))))) => (oL pStr) ([("x" : Str), ("yard" : Str), ("z" : Str), ("u" : Str), ("wide_one" : Str), ("q" : Str), ("pp" : Str), ("t" : Str)])) (x_disp pStr (fun _ => [_, _, _, _, _, _, _, _]) (a_cons x_str (fun _ => a_cons x_str (fun _ => a_cons x_str (fun _ => a_cons x_str (fun _ => a_cons x_str (fun _ => a_cons x_str (fun _ => a_cons x_str (fun _ => a_cons x_str (fun _ => a_nil))))))))) (fun _ => rfl) (fun _ => by simp))))) fun (b71 : (Unit × (Unit × (Unit × (Unit × (Unit × (Unit × (Unit × (Unit × Unit))))))))) x70 => s_T (T := grd (rg a2 = true) ((compM (rngL 0 a2.toNat) () (fun x73 s75 => if true = true then grd ((sm x73 || sm (3 : Int)) = true) (grd (0 < (8 : Int)) ((atI x70 (((x73 * (3 : Int)) + x68) % (8 : Int))).bind fun x77 => some (some x77, ()))) else some (none, ()))).bind fun r78 => some (r78.1, b69.2.2))) (s_retO (P := (fun (r : (List Str) × (List Int)) => [⟨G1, v1, (oL pInt) r.2, true⟩])) (Ro := (fun (r : (List Str) × (List Int)) => (oL pStr) r.1)) (ι := id) (rv := fun (b : (Unit × ((List Str) × Unit))) => (b.2.1, b69.2.2)) (fun _ _ _ h => h) (o_kd (o_kd (E := fun (b_ : (Unit × ((List Str) × Unit))) => (oL pStr) b_.2.1) (x_lc (own := [("_law_k", 4)]) (C := fun (b_ : Unit) (s_ : Unit) => [⟨G1, v1, (oL pInt) b69.2.2, true⟩]) (s0 := fun (b_ : Unit) => ()) (s2 := fun (b_ : Unit) (x_ : Int) (s_ : Unit) (c_ : Unit) => ()) (s3 := fun (b_ : Unit) (x_ : Int) (s_ : Unit) (c_ : Unit) (d_ : ((Unit × (((Unit × Unit) × Unit) × Unit)) × Str)) => ()) (Ex := pInt) (Ee := pStr) (δ := Str) (y := fun (b_ : Unit) (x_ : Int) (s_ : Unit) (c_ : Unit) (d_ : ((Unit × (((Unit × Unit) × Unit) × Unit)) × Str)) => d_.2) (T2 := fun (b_ : Unit) (x_ : Int) (s_ : Unit) (c_ : Unit) => grd ((sm x_ || sm (3 : Int)) = true) (grd (0 < (8 : Int)) ((atI x70 (((x_ * (3 : Int)) + x68) % (8 : Int))).bind fun x77 => some (some x77, ())))) (c := fun (b_ : Unit) (x_ : Int) (s_ : Unit) (c_ : Unit) => true) (f := fun (b_ : Unit) (x_ : Int) (s_ : Unit) => if true = true then grd ((sm x_ || sm (3 : Int)) = true) (grd (0 < (8 : Int)) ((atI x70 (((x_ * (3 : Int)) + x68) % (8 : Int))).bind fun x77 => some (some x77, ()))) else some (none, ())) sc_l_names.nd (i_rng1 m_range (x_var (p := pInt a2) 1)) (blkOk_by (own := [("_law_k", 4)]) (N := ["_law_stream_here", "_law_count", "_law_letters", "_law_names_here", "_law_k", "_law_shift", "_law_plain", "_law_at", "_law_size", "_law_tail"]) (sc := defScope (top 8)) (by decide +kernel)) (fun _ _ _ _ _ => pg_name (i := 4) sc_l_names.nd rfl (by first | exact .inl rfl | exact .inr rfl)) (tw_name 4) (fun _ => rfl) (by exact fun q76 _ _ _ _ _ b72 x73 s75 => pts_T) (by exact fun q76 _ _ _ _ _ b72 x73 s75 _ => x_out (x_kd (E := fun (b_ : ((Unit × (((Unit × Unit) × Unit) × Unit)) × Str)) => pStr b_.2) (x_ixL (Ee := pStr) (x_var (p := (pL pStr) x70) 6) (fun _ => x_kd (E := fun (b_ : (((Unit × Unit) × Unit) × Unit)) => pInt (((x73 * (3 : Int)) + x68) % (8 : Int))) (x_mod (x_kd (E := fun (b_ : ((Unit × Unit) × Unit)) => pInt ((x73 * (3 : Int)) + x68)) (x_intI m_int (x_kd (E := fun (b_ : ((Unit × Unit) × Unit)) => pInt ((x73 * (3 : Int)) + x68)) (x_add (x_kd (E := fun (b_ : (Unit × Unit)) => pInt (x73 * (3 : Int))) (x_mul (x_var (p := pInt x73) 4) (fun _ => x_int (i := 3)))) (fun _ => x_var (p := pInt x68) 5))))) (fun _ => x_int (i := 8)))) (fun _ _ => rdF))))))) (fun _ => List.Sublist.refl _))))) fun (b66 : (((Unit × Unit) × (Int × (List Int))) × Unit)) => s_T (T := (some (("qwertyuiopasdfghjklzxcvbnm_zyx" : Str) : Str)).bind fun x79 => (some ([] : List Str)).bind fun x81 => grd (rg a2 = true) ((forS (rngL 0 a2.toNat) ((x81, b66.1.2.2) : (List Str) × (List Int)) fun x87 s86 => (M_l_next (s86.2) (26 : Int)).bind fun r90 => (some (r90.1 : Int)).bind fun x91 => (M_l_next (r90.2) (3 : Int)).bind fun r93 => (some (((1 : Int) + (r93.1)) : Int)).bind fun x94 => (M_l_next (r93.2) (3 : Int)).bind fun r96 => grd (x79.length ≤ sizeLine) ((some ((cutS x79 (some ((26 : Int) - (r96.1))) (some (26 : Int))) : Str)).bind fun x97 => grd (x79.length ≤ sizeLine) (grd (("7305186429" : Str).length ≤ sizeLine) ((atI ("7305186429" : Str).cps.toList x87).bind fun x99 => grd ((cutS x79 (some x91) (some (x91 + x94))).length + (⟨#[x99]⟩ : Str).length ≤ sizeLine) (grd (((cutS x79 (some x91) (some (x91 + x94))) ++ (⟨#[x99]⟩ : Str)).length + x97.length ≤ sizeLine) (grd ((s86.1).length < sizeLine) (some (((s86.1) ++ [(((cutS x79 (some x91) (some (x91 + x94))) ++ (⟨#[x99]⟩ : Str)) ++ x97)]), r96.2)))))))).bind fun s88 => some (s88.1, s88.2))) (s_let (i := 2) pStr sc_l_names.nd x_str fun (b80 : Unit) x79 => s_T (T := (some ([] : List Str)).bind fun x81 => grd (rg a2 = true) ((forS (rngL 0 a2.toNat) ((x81, b66.1.2.2) : (List Str) × (List Int)) fun x87 s86 => (M_l_next (s86.2) (26 : Int)).bind fun r90 => (some (r90.1 : Int)).bind fun x91 => (M_l_next (r90.2) (3 : Int)).bind fun r93 => (some (((1 : Int) + (r93.1)) : Int)).bind fun x94 => (M_l_next (r93.2) (3 : Int)).bind fun r96 => grd (x79.length ≤ sizeLine) ((some ((cutS x79 (some ((26 : Int) - (r96.1))) (some (26 : Int))) : Str)).bind fun x97 => grd (x79.length ≤ sizeLine) (grd (("7305186429" : Str).length ≤ sizeLine) ((atI ("7305186429" : Str).cps.toList x87).bind fun x99 => grd ((cutS x79 (some x91) (some (x91 + x94))).length + (⟨#[x99]⟩ : Str).length ≤ sizeLine) (grd (((cutS x79 (some x91) (some (x91 + x94))) ++ (⟨#[x99]⟩ : Str)).length + x97.length ≤ sizeLine) (grd ((s86.1).length < sizeLine) (some (((s86.1) ++ [(((cutS x79 (some x91) (some (x91 + x94))) ++ (⟨#[x99]⟩ : Str)) ++ x97)]), r96.2)))))))).bind fun s88 => some (s88.1, s88.2))) (s_letO (i := 3) (oL pStr) sc_l_names.nd (o_kd (E := fun (b_ : Unit) => (oL pStr) ([])) (x_nil pStr)) fun (b82 : Unit) x81 v84 G83 => s_T (T := grd (rg a2 = true) ((forS (rngL 0 a2.toNat) ((x81, b66.1.2.2) : (List Str) × (List Int)) fun x87 s86 => (M_l_next (s86.2) (26 : Int)).bind fun r90 => (some (r90.1 : Int)).bind fun x91 => (M_l_next (r90.2) (3 : Int)).bind fun r93 => (some (((1 : Int) + (r93.1)) : Int)).bind fun x94 => (M_l_next (r93.2) (3 : Int)).bind fun r96 => grd (x79.length ≤ sizeLine) ((some ((cutS x79 (some ((26 : Int) - (r96.1))) (some (26 : Int))) : Str)).bind fun x97 => grd (x79.length ≤ sizeLine) (grd (("7305186429" : Str).length ≤ sizeLine) ((atI ("7305186429" : Str).cps.toList x87).bind fun x99 => grd ((cutS x79 (some x91) (some (x91 + x94))).length + (⟨#[x99]⟩ : Str).length ≤ sizeLine) (grd (((cutS x79 (some x91) (some (x91 + x94))) ++ (⟨#[x99]⟩ : Str)).length + x97.length ≤ sizeLine) (grd ((s86.1).length < sizeLine) (some (((s86.1) ++ [(((cutS x79 (some x91) (some (x91 + x94))) ++ (⟨#[x99]⟩ : Str)) ++ x97)]), r96.2)))))))).bind fun s88 => some (s88.1, s88.2))) (s_forS PassesOwn.never (fun (b_ : Unit) (s_ : (List Str) × (List Int)) => ([some (pV v1), some (pInt a2), some (pStr x79), some (pV v84), none, none, none, none, none, none], [⟨G83, v84, (oL pStr) s_.1, false⟩, ⟨G1, v1, (oL pInt) s_.2, true⟩])) (fun (b_ : Unit) => (x81, b66.1.2.2)) (i_rng1 m_range (x_var (p := pInt a2) 1)) (pg_name (i := 4) sc_l_names.nd rfl (by first | exact .inl rfl | exact .inr rfl)) (tg_name 4) (fun _ => ⟨rfl, rfl, rfl, rfl, trivial⟩) (fun _ => List.Sublist.refl _) (fun b85 x87 s86 => s_T (T := (M_l_next (s86.2) (26 : Int)).bind fun r90 => (some (r90.1 : Int)).bind fun x91 => (M_l_next (r90.2) (3 : Int)).bind fun r93 => (some (((1 : Int) + (r93.1)) : Int)).bind fun x94 => (M_l_next (r93.2) (3 : Int)).bind fun r96 => grd (x79.length ≤ sizeLine) ((some ((cutS x79 (some ((26 : Int) - (r96.1))) (some (26 : Int))) : Str)).bind fun x97 => grd (x79.length ≤ sizeLine) (grd (("7305186429" : Str).length ≤ sizeLine) ((atI ("7305186429" : Str).cps.toList x87).bind fun x99 => grd ((cutS x79 (some x91) (some (x91 + x94))).length + (⟨#[x99]⟩ : Str).length ≤ sizeLine) (grd (((cutS x79 (some x91) (some (x91 + x94))) ++ (⟨#[x99]⟩ : Str)).length + x97.length ≤ sizeLine) (grd ((s86.1).length < sizeLine) (some (((s86.1) ++ [(((cutS x79 (some x91) (some (x91 + x94))) ++ (⟨#[x99]⟩ : Str)) ++ x97)]), r96.2)))))))) (s_let (i := 7) pInt sc_l_names.nd (x_kd (E := fun (b_ : ((Unit × Unit) × (Int × (List Int)))) => pInt b_.2.1) (x_OF_f (kk := 1) (E1 := (oL pInt)) (E2 := pInt) (s1 := fun (_ : Unit) (_ : Unit) => s86.2) (G1 := G1) (v1 := v1) k_l_next (hr.mono (by decide)) g_l_next F_l_next.kp b_l_next 1 (x_var (p := pV v1) 0) (fun _ => x_int (i := 26)) (fun _ _ => rfl) (hw_of 1))) fun (b92 : ((Unit × Unit) × (Int × (List Int)))) x91 => s_T (T := (M_l_next (b92.2.2) (3 : Int)).bind fun r93 => (some (((1 : Int) + (r93.1)) : Int)).bind fun x94 => (M_l_next (r93.2) (3 : Int)).bind fun r96 => grd (x79.length ≤ sizeLine) ((some ((cutS x79 (some ((26 : Int) - (r96.1))) (some (26 : Int))) : Str)).bind fun x97 => grd (x79.length ≤ sizeLine) (grd (("7305186429" : Str).length ≤ sizeLine) ((atI ("7305186429" : Str).cps.toList x87).bind fun x99 => grd ((cutS x79 (some x91) (some (x91 + x94))).length + (⟨#[x99]⟩ : Str).length ≤ sizeLine) (grd (((cutS x79 (some x91) (some (x91 + x94))) ++ (⟨#[x99]⟩ : Str)).length + x97.length ≤ sizeLine) (grd ((s86.1).length < sizeLine) (some (((s86.1) ++ [(((cutS x79 (some x91) (some (x91 + x94))) ++ (⟨#[x99]⟩ : Str)) ++ x97)]), r96.2)))))))) (s_let (i := 8) pInt sc_l_names.nd (x_kd (E := fun (b_ : (Unit × ((Unit × Unit) × (Int × (List Int))))) => pInt ((1 : Int) + (b_.2.2.1))) (x_add (x_int (i := 1)) (fun _ => x_kd (E := fun (b_ : ((Unit × Unit) × (Int × (List Int)))) => pInt b_.2.1) (x_OF_f (kk := 1) (E1 := (oL pInt)) (E2 := pInt) (s1 := fun (_ : Unit) (_ : Unit) => b92.2.2) (G1 := G1) (v1 := v1) k_l_next (hr.mono (by decide)) g_l_next F_l_next.kp b_l_next 1 (x_var (p := pV v1) 0) (fun _ => x_int (i := 3)) (fun _ _ => rfl) (hw_of 1))))) fun (b95 : (Unit × ((Unit × Unit) × (Int × (List Int))))) x94 => s_T (T := (M_l_next (b95.2.2.2) (3 : Int)).bind fun r96 => grd (x79.length ≤ sizeLine) ((some ((cutS x79 (some ((26 : Int) - (r96.1))) (some (26 : Int))) : Str)).bind fun x97 => grd (x79.length ≤ sizeLine) (grd (("7305186429" : Str).length ≤ sizeLine) ((atI ("7305186429" : Str).cps.toList x87).bind fun x99 => grd ((cutS x79 (some x91) (some (x91 + x94))).length + (⟨#[x99]⟩ : Str).length ≤ sizeLine) (grd (((cutS x79 (some x91) (some (x91 + x94))) ++ (⟨#[x99]⟩ : Str)).length + x97.length ≤ sizeLine) (grd ((s86.1).length < sizeLine) (some (((s86.1) ++ [(((cutS x79 (some x91) (some (x91 + x94))) ++ (⟨#[x99]⟩ : Str)) ++ x97)]), r96.2)))))))) (s_let (i := 9) pStr sc_l_names.nd (x_kd (E := fun (b_ : (Unit × ((Unit × ((Unit × Unit) × (Int × (List Int)))) × Unit))) => pStr (cutS x79 (some ((26 : Int) - (b_.2.1.2.2.1))) (some (26 : Int)))) (x_slS (x_var (p := pStr x79) 2) (fun _ => p_some (i := fun (b_ : (Unit × ((Unit × Unit) × (Int × (List Int))))) => ((26 : Int) - (b_.2.2.1))) (x_kd (E := fun (b_ : (Unit × ((Unit × Unit) × (Int × (List Int))))) => pInt ((26 : Int) - (b_.2.2.1))) (x_sub (x_int (i := 26)) (fun _ => x_kd (E := fun (b_ : ((Unit × Unit) × (Int × (List Int)))) => pInt b_.2.1) (x_OF_f (kk := 1) (E1 := (oL pInt)) (E2 := pInt) (s1 := fun (_ : Unit) (_ : Unit) => b95.2.2.2) (G1 := G1) (v1 := v1) k_l_next (hr.mono (by decide)) g_l_next F_l_next.kp b_l_next 1 (x_var (p := pV v1) 0) (fun _ => x_int (i := 3)) (fun _ _ => rfl) (hw_of 1)))))) (fun _ _ => p_some (i := fun (b_ : Unit) => (26 : Int)) (x_int (i := 26))))) fun (b98 : (Unit × ((Unit × ((Unit × Unit) × (Int × (List Int)))) × Unit))) x97 => s_T (T := grd (x79.length ≤ sizeLine) (grd (("7305186429" : Str).length ≤ sizeLine) ((atI ("7305186429" : Str).cps.toList x87).bind fun x99 => grd ((cutS x79 (some x91) (some (x91 + x94))).length + (⟨#[x99]⟩ : Str).length ≤ sizeLine) (grd (((cutS x79 (some x91) (some (x91 + x94))) ++ (⟨#[x99]⟩ : Str)).length + x97.length ≤ sizeLine) (grd ((s86.1).length < sizeLine) (some (((s86.1) ++ [(((cutS x79 (some x91) (some (x91 + x94))) ++ (⟨#[x99]⟩ : Str)) ++ x97)]), b98.2.1.2.2.2))))))) (s_expr (x_app 0 (x_var (p := pV v84) 3) (fun _ => x_kd (E := fun (b_ : (((Unit × (Unit × (Unit × Unit))) × ((Unit × Unit) × Nat)) × Unit)) => pStr (((cutS x79 (some x91) (some (x91 + x94))) ++ (⟨#[b_.1.2.2]⟩ : Str)) ++ x97)) (x_addS (x_kd (E := fun (b_ : ((Unit × (Unit × (Unit × Unit))) × ((Unit × Unit) × Nat))) => pStr ((cutS x79 (some x91) (some (x91 + x94))) ++ (⟨#[b_.2.2]⟩ : Str))) (x_addS (x_kd (E := fun (b_ : (Unit × (Unit × (Unit × Unit)))) => pStr (cutS x79 (some x91) (some (x91 + x94)))) (x_slS (x_var (p := pStr x79) 2) (fun _ => p_some (i := fun (b_ : Unit) => x91) (x_var (p := pInt x91) 7)) (fun _ _ => p_some (i := fun (b_ : (Unit × Unit)) => (x91 + x94)) (x_kd (E := fun (b_ : (Unit × Unit)) => pInt (x91 + x94)) (x_add (x_var (p := pInt x91) 7) (fun _ => x_var (p := pInt x94) 8)))))) (fun _ => x_kd (E := fun (b_ : ((Unit × Unit) × Nat)) => pStr (⟨#[b_.2]⟩ : Str)) (x_ixC x_str (fun _ => x_var (p := pInt x87) 4))))) (fun _ => x_var (p := pStr x97) 9))) (fun _ => rfl) (fun _ _ => rfl) (hw_of 0)) fun (b100 : (Unit × (((Unit × (Unit × (Unit × Unit))) × ((Unit × Unit) × Nat)) × Unit))) => s_end (((s86.1) ++ [(((cutS x79 (some x91) (some (x91 + x94))) ++ (⟨#[b100.2.1.2.2]⟩ : Str)) ++ x97)]), b98.2.1.2.2.2) rfl ⟨rfl, rfl, rfl, rfl, trivial⟩ (List.Sublist.refl _)))))) fun b85 s88 => s_T (T := some (s88.1, s88.2)) (s_retV 0 (P := (fun (r : (List Str) × (List Int)) => [⟨G1, v1, (oL pInt) r.2, true⟩])) (Ro := (fun (r : (List Str) × (List Int)) => (oL pStr) r.1)) (ι := id) (rv := fun _ => (s88.1, s88.2)) (fun _ _ _ h => h) (x_var (p := pV v84) 3) (fun _ => rfl) (fun _ => List.Sublist.refl _))))))) (by unfold M_l_names; rfl)
end
end My
end
section
set_option Elab.async false
set_option linter.all false
set_option maxRecDepth 100000
set_option maxHeartbeats 4000000
set_option pp.maxSteps 200
namespace My
open PySem PySem.Spec PyProof.Rows L2 L3
section
variable {P : Program} {w : World} {K : PySem.W.Frag} {mg : Str → Option Value} {base : Heap}
theorem sc_l_pool : FnScope ["_law_stream_here", "_law_count", "_law_pool_here", "_law_k", "_law_scale", "_law_value"] ["_law_stream_here", "_law_count"] (defScope (top 9)) := ⟨rfl, rfl, rfl, by decide +kernel, rfl, by decide +kernel, by decide +kernel⟩
theorem ok_l_pool {f : Addr} {fd : FuncData} (C : Ev K mg) (FD : FnP K "_law_pool" (top 9) f fd)   : FnOk P w K mg base CX0 2 f fd ["_law_stream_here", "_law_count"] (Sp_OF_o (oL pInt) pInt M_l_pool (oL pInt)) := by
  have m_range := C.m_range
  obtain ⟨f_l_next, fd_l_next, F_l_next, g_l_next⟩ := C.f_l_next
  have k_l_next := ok_l_next (P := P) (w := w) (base := base) C F_l_next
  have b_l_next : Binds K fd_l_next ["_law_stream_here", "_law_size"] [] := F_l_next.bindsN fun _ _ _ _ _ _ us hl => match us, hl with | [_, _], _ => rfl
  refine fn_OF_o FD sc_l_pool rfl fun cdv A outer s H E hr v1 G1 a1 a2 => ?_
  exact s_is (s_T (T := (M_l_next a1 (9 : Int)).bind fun r101 => (some ([((r101.1) - (4 : Int))] : List Int)).bind fun x102 => grd (rg (a2 - (1 : Int)) = true) ((forS (rngL 0 (a2 - (1 : Int)).toNat) ((x102, r101.2) : (List Int) × (List Int)) fun x108 s107 => (atI (s107.1) x108).bind fun x119 => (M_l_next (s107.2) (4 : Int)).bind fun r120 => grd (dv (3 : Int) = true) (grd ((sm (2 : Int) || sm ((r120.1) / (3 : Int))) = true) (grd ((s107.1).length < sizeLine) (some (((s107.1) ++ [((x119 + (1 : Int)) + ((2 : Int) * ((r120.1) / (3 : Int))))]), r120.2))))).bind fun s109 => (M_l_next (s109.2) (8 : Int)).bind fun r110 => (atI ([(1 : Int), (1 : Int), (1 : Int), (1 : Int), (1 : Int), (1 : Int), (7 : Int), ((10 : Int) ^ (9 : Int).toNat)]) (r110.1)).bind fun x111 => (some (x111 : Int)).bind fun x112 => (compM (s109.1) () (fun x115 s116 => if true = true then grd ((sm x115 || sm x112) = true) (some (some (x115 * x112), ())) else some (none, ()))).bind fun r118 => some (r118.1, r110.2))) (s_letO (i := 2) (oL pInt) sc_l_pool.nd (o_kd (E := fun (b_ : ((((Unit × Unit) × (Int × (List Int))) × Unit) × Unit)) => (oL pInt) ([((b_.1.1.2.1) - (4 : Int))])) (x_disp pInt (fun _ => [_]) (a_cons (x_kd (E := fun (b_ : (((Unit × Unit) × (Int × (List Int))) × Unit)) => pInt ((b_.1.2.1) - (4 : Int))) (x_sub (x_kd (E := fun (b_ : ((Unit × Unit) × (Int × (List Int)))) => pInt b_.2.1) (x_OF_f (kk := 1) (E1 := (oL pInt)) (E2 := pInt) (s1 := fun (_ : Unit) (_ : Unit) => a1) (G1 := G1) (v1 := v1) k_l_next (hr.mono (by decide)) g_l_next F_l_next.kp b_l_next 0 (x_var (p := pV v1) 0) (fun _ => x_int (i := 9)) (fun _ _ => rfl) (hw_of 0))) (fun _ => x_int (i := 4)))) (fun _ => a_nil)) (fun _ => rfl) (fun _ => by simp))) fun (b103 : ((((Unit × Unit) × (Int × (List Int))) × Unit) × Unit)) x102 v105 G104 => s_T (T := grd (rg (a2 - (1 : Int)) = true) ((forS (rngL 0 (a2 - (1 : Int)).toNat) ((x102, b103.1.1.2.2) : (List Int) × (List Int)) fun x108 s107 => (atI (s107.1) x108).bind fun x119 => (M_l_next (s107.2) (4 : Int)).bind fun r120 => grd (dv (3 : Int) = true) (grd ((sm (2 : Int) || sm ((r120.1) / (3 : Int))) = true) (grd ((s107.1).length < sizeLine) (some (((s107.1) ++ [((x119 + (1 : Int)) + ((2 : Int) * ((r120.1) / (3 : Int))))]), r120.2))))).bind fun s109 => (M_l_next (s109.2) (8 : Int)).bind fun r110 => (atI ([(1 : Int), (1 : Int), (1 : Int), (1 : Int), (1 : Int), (1 : Int), (7 : Int), ((10 : Int) ^ (9 : Int).toNat)]) (r110.1)).bind fun x111 => (some (x111 : Int)).bind fun x112 => (compM (s109.1) () (fun x115 s116 => if true = true then grd ((sm x115 || sm x112) = true) (some (some (x115 * x112), ())) else some (none, ()))).bind fun r118 => some (r118.1, r110.2))) (s_forS PassesOwn.never (fun (b_ : (Unit × Unit)) (s_ : (List Int) × (List Int)) => ([some (pV v1), some (pInt a2), some (pV v105), none, none, none], [⟨G104, v105, (oL pInt) s_.1, false⟩, ⟨G1, v1, (oL pInt) s_.2, true⟩])) (fun (b_ : (Unit × Unit)) => (x102, b103.1.1.2.2)) (i_rng1 m_range (x_kd (E := fun (b_ : (Unit × Unit)) => pInt (a2 - (1 : Int))) (x_sub (x_var (p := pInt a2) 1) (fun _ => x_int (i := 1))))) (pg_name (i := 3) sc_l_pool.nd rfl (by first | exact .inl rfl | exact .inr rfl)) (tg_name 3) (fun _ => ⟨rfl, rfl, rfl, trivial⟩) (fun _ => List.Sublist.refl _) (fun b106 x108 s107 => s_T (T := (atI (s107.1) x108).bind fun x119 => (M_l_next (s107.2) (4 : Int)).bind fun r120 => grd (dv (3 : Int) = true) (grd ((sm (2 : Int) || sm ((r120.1) / (3 : Int))) = true) (grd ((s107.1).length < sizeLine) (some (((s107.1) ++ [((x119 + (1 : Int)) + ((2 : Int) * ((r120.1) / (3 : Int))))]), r120.2))))) (s_expr (x_app 0 (x_var (p := pV v105) 2) (fun _ => x_kd (E := fun (b_ : ((((Unit × Unit) × Int) × Unit) × (Unit × (((Unit × Unit) × (Int × (List Int))) × Unit)))) => pInt ((b_.1.1.2 + (1 : Int)) + ((2 : Int) * ((b_.2.2.1.2.1) / (3 : Int))))) (x_add (x_kd (E := fun (b_ : (((Unit × Unit) × Int) × Unit)) => pInt (b_.1.2 + (1 : Int))) (x_add (x_kd (E := fun (b_ : ((Unit × Unit) × Int)) => pInt b_.2) (x_ixL (Ee := pInt) (x_var (p := pV v105) 2) (fun _ => x_var (p := pInt x108) 3) (fun _ _ => rdO 0))) (fun _ => x_int (i := 1)))) (fun _ => x_kd (E := fun (b_ : (Unit × (((Unit × Unit) × (Int × (List Int))) × Unit))) => pInt ((2 : Int) * ((b_.2.1.2.1) / (3 : Int)))) (x_mul (x_int (i := 2)) (fun _ => x_kd (E := fun (b_ : (((Unit × Unit) × (Int × (List Int))) × Unit)) => pInt ((b_.1.2.1) / (3 : Int))) (x_fdiv (x_kd (E := fun (b_ : ((Unit × Unit) × (Int × (List Int)))) => pInt b_.2.1) (x_OF_f (kk := 1) (E1 := (oL pInt)) (E2 := pInt) (s1 := fun (_ : Unit) (_ : Unit) => s107.2) (G1 := G1) (v1 := v1) k_l_next (hr.mono (by decide)) g_l_next F_l_next.kp b_l_next 1 (x_var (p := pV v1) 0) (fun _ => x_int (i := 4)) (fun _ _ => rfl) (hw_of 1))) (fun _ => x_int (i := 3)))))))) (fun _ => rfl) (fun _ _ => rfl) (hw_of 0)) fun (b121 : (Unit × ((((Unit × Unit) × Int) × Unit) × (Unit × (((Unit × Unit) × (Int × (List Int))) × Unit))))) => s_end (((s107.1) ++ [((b121.2.1.1.2 + (1 : Int)) + ((2 : Int) * ((b121.2.2.2.1.2.1) / (3 : Int))))]), b121.2.2.2.1.2.2) rfl ⟨rfl, rfl, rfl, trivial⟩ (List.Sublist.refl _))) fun b106 s109 => s_T (T := (M_l_next (s109.2) (8 : Int)).bind fun r110 => (atI ([(1 : Int), (1 : Int), (1 : Int), (1 : Int), (1 : Int), (1 : Int), (7 : Int), ((10 : Int) ^ (9 : Int).toNat)]) (r110.1)).bind fun x111 => (some (x111 : Int)).bind fun x112 => (compM (s109.1) () (fun x115 s116 => if true = true then grd ((sm x115 || sm x112) = true) (some (some (x115 * x112), ())) else some (none, ()))).bind fun r118 => some (r118.1, r110.2)) (s_let (i := 4) pInt sc_l_pool.nd (x_kd (E := fun (b_ : (((Unit × (Unit × (Unit × (Unit × (Unit × (Unit × (Unit × ((Unit × Unit) × Unit)))))))) × ((Unit × Unit) × (Int × (List Int)))) × Int)) => pInt b_.2) (x_ixL (Ee := pInt) (x_kd (E := fun (b_ : (Unit × (Unit × (Unit × (Unit × (Unit × (Unit × (Unit × ((Unit × Unit) × Unit))))))))) => (pL pInt) ([(1 : Int), (1 : Int), (1 : Int), (1 : Int), (1 : Int), (1 : Int), (7 : Int), ((10 : Int) ^ (9 : Int).toNat)])) (x_frz (o_kd (E := fun (b_ : (Unit × (Unit × (Unit × (Unit × (Unit × (Unit × (Unit × ((Unit × Unit) × Unit))))))))) => (oL pInt) ([(1 : Int), (1 : Int), (1 : Int), (1 : Int), (1 : Int), (1 : Int), (7 : Int), ((10 : Int) ^ (9 : Int).toNat)])) (x_disp pInt (fun _ => [_, _, _, _, _, _, _, _]) (a_cons (x_int (i := 1)) (fun _ => a_cons (x_int (i := 1)) (fun _ => a_cons (x_int (i := 1)) (fun _ => a_cons (x_int (i := 1)) (fun _ => a_cons (x_int (i := 1)) (fun _ => a_cons (x_int (i := 1)) (fun _ => a_cons (x_int (i := 7)) (fun _ => a_cons (x_kd (E := fun (b_ : (Unit × Unit)) => pInt ((10 : Int) ^ (9 : Int).toNat)) (x_pow (x_int (i := 10)) (fun _ => x_int (i := 9)) (fun _ _ => by decide))) (fun _ => a_nil))))))))) (fun _ => rfl) (fun _ => by simp))))) (fun _ => x_kd (E := fun (b_ : ((Unit × Unit) × (Int × (List Int)))) => pInt b_.2.1) (x_OF_f (kk := 1) (E1 := (oL pInt)) (E2 := pInt) (s1 := fun (_ : Unit) (_ : Unit) => s109.2) (G1 := G1) (v1 := v1) k_l_next (hr.mono (by decide)) g_l_next F_l_next.kp b_l_next 1 (x_var (p := pV v1) 0) (fun _ => x_int (i := 8)) (fun _ _ => rfl) (hw_of 1))) (fun _ _ => rdF))) fun (b113 : (((Unit × (Unit × (Unit × (Unit × (Unit × (Unit × (Unit × ((Unit × Unit) × Unit)))))))) × ((Unit × Unit) × (Int × (List Int)))) × Int)) x112 => s_T (T := (compM (s109.1) () (fun x115 s116 => if true = true then grd ((sm x115 || sm x112) = true) (some (some (x115 * x112), ())) else some (none, ()))).bind fun r118 => some (r118.1, b113.1.2.2.2)) (s_frz (i := 2) (c := ⟨G104, v105, (oL pInt) s109.1, false⟩) 0 (s_retO (P := (fun (r : (List Int) × (List Int)) => [⟨G1, v1, (oL pInt) r.2, true⟩])) (Ro := (fun (r : (List Int) × (List Int)) => (oL pInt) r.1)) (ι := id) (rv := fun (b : (Unit × ((List Int) × Unit))) => (b.2.1, b113.1.2.2.2)) (fun _ _ _ h => h) (o_kd (o_kd (E := fun (b_ : (Unit × ((List Int) × Unit))) => (oL pInt) b_.2.1) (x_lc (own := [("_law_value", 5)]) (C := fun (b_ : Unit) (s_ : Unit) => [⟨G1, v1, (oL pInt) b113.1.2.2.2, true⟩]) (s0 := fun (b_ : Unit) => ()) (s2 := fun (b_ : Unit) (x_ : Int) (s_ : Unit) (c_ : Unit) => ()) (s3 := fun (b_ : Unit) (x_ : Int) (s_ : Unit) (c_ : Unit) (d_ : (Unit × Unit)) => ()) (Ex := pInt) (Ee := pInt) (δ := Int) (y := fun (b_ : Unit) (x_ : Int) (s_ : Unit) (c_ : Unit) (d_ : (Unit × Unit)) => (x_ * x112)) (T2 := fun (b_ : Unit) (x_ : Int) (s_ : Unit) (c_ : Unit) => grd ((sm x_ || sm x112) = true) (some (some (x_ * x112), ()))) (c := fun (b_ : Unit) (x_ : Int) (s_ : Unit) (c_ : Unit) => true) (f := fun (b_ : Unit) (x_ : Int) (s_ : Unit) => if true = true then grd ((sm x_ || sm x112) = true) (some (some (x_ * x112), ())) else some (none, ())) sc_l_pool.nd (i_list (x_var (p := (pL pInt) s109.1) 2)) (blkOk_by (own := [("_law_value", 5)]) (N := ["_law_stream_here", "_law_count", "_law_pool_here", "_law_k", "_law_scale", "_law_value"]) (sc := defScope (top 9)) (by decide +kernel)) (fun _ _ _ _ _ => pg_name (i := 5) sc_l_pool.nd rfl (by first | exact .inl rfl | exact .inr rfl)) (tw_name 5) (fun _ => rfl) (by exact fun q117 _ _ _ _ _ b114 x115 s116 => pts_T) (by exact fun q117 _ _ _ _ _ b114 x115 s116 _ => x_out (x_kd (E := fun (b_ : (Unit × Unit)) => pInt (x115 * x112)) (x_mul (x_var (p := pInt x115) 5) (fun _ => x_var (p := pInt x112) 4))))))) (fun _ => List.Sublist.refl _))))))) (by unfold M_l_pool; rfl)
end
end My
end
section
set_option Elab.async false
set_option linter.all false
set_option maxRecDepth 100000
set_option maxHeartbeats 4000000
set_option pp.maxSteps 200
namespace My
open PySem PySem.Spec PyProof.Rows L2 L3
section
variable {P : Program} {w : World} {K : PySem.W.Frag} {mg : Str → Option Value} {base : Heap}
theorem sc_l_shuffled : FnScope ["_law_stream_here", "_law_things", "_law_rest", "_law_found", "_law_k", "_law_at"] ["_law_stream_here", "_law_things"] (defScope (top 10)) := ⟨rfl, rfl, rfl, by decide +kernel, rfl, by decide +kernel, by decide +kernel⟩
theorem ok_l_shuffled {f : Addr} {fd : FuncData} (C : Ev K mg) (FD : FnP K "_law_shuffled" (top 10) f fd)   : FnOk P w K mg base CX0 2 f fd ["_law_stream_here", "_law_things"] (Sp_OF_o (oL pInt) (pL pStr) M_l_shuffled (oL pStr)) := by
  have m_len := C.m_len
  have m_list := C.m_list
  have m_range := C.m_range
  obtain ⟨f_l_next, fd_l_next, F_l_next, g_l_next⟩ := C.f_l_next
  have k_l_next := ok_l_next (P := P) (w := w) (base := base) C F_l_next
  have b_l_next : Binds K fd_l_next ["_law_stream_here", "_law_size"] [] := F_l_next.bindsN fun _ _ _ _ _ _ us hl => match us, hl with | [_, _], _ => rfl
  refine fn_OF_o FD sc_l_shuffled rfl fun cdv A outer s H E hr v1 G1 a1 a2 => ?_
  exact s_is (s_T (T := (some (a2 : List Str)).bind fun x122 => (some ([] : List Str)).bind fun x124 => grd (rg (a2.length : Int) = true) ((forS (rngL 0 (a2.length : Int).toNat) ((x122, x124, a1) : (List Str) × (List Str) × (List Int)) fun x130 s129 => (M_l_next (s129.2.2) ((s129.1).length : Int)).bind fun r133 => (some (r133.1 : Int)).bind fun x134 => (atI (s129.1) x134).bind fun x136 => grd ((s129.2.1).length < sizeLine) (grd ((cutL (s129.1) none (some x134)).length + (cutL (s129.1) (some (x134 + (1 : Int))) none).length ≤ sizeLine) ((some (((cutL (s129.1) none (some x134)) ++ (cutL (s129.1) (some (x134 + (1 : Int))) none)) : List Str)).bind fun x138 => some (x138, ((s129.2.1) ++ [x136]), r133.2)))).bind fun s131 => some (s131.2.1, s131.2.2))) (s_let (i := 2) (pL pStr) sc_l_shuffled.nd (x_kd (E := fun (b_ : Unit) => (pL pStr) a2) (x_frz (o_kd (E := fun (b_ : Unit) => (oL pStr) a2) (x_listL (Ee := pStr) m_list (x_var (p := (pL pStr) a2) 1) (fun _ => rdF))))) fun (b123 : Unit) x122 => s_T (T := (some ([] : List Str)).bind fun x124 => grd (rg (a2.length : Int) = true) ((forS (rngL 0 (a2.length : Int).toNat) ((x122, x124, a1) : (List Str) × (List Str) × (List Int)) fun x130 s129 => (M_l_next (s129.2.2) ((s129.1).length : Int)).bind fun r133 => (some (r133.1 : Int)).bind fun x134 => (atI (s129.1) x134).bind fun x136 => grd ((s129.2.1).length < sizeLine) (grd ((cutL (s129.1) none (some x134)).length + (cutL (s129.1) (some (x134 + (1 : Int))) none).length ≤ sizeLine) ((some (((cutL (s129.1) none (some x134)) ++ (cutL (s129.1) (some (x134 + (1 : Int))) none)) : List Str)).bind fun x138 => some (x138, ((s129.2.1) ++ [x136]), r133.2)))).bind fun s131 => some (s131.2.1, s131.2.2))) (s_letO (i := 3) (oL pStr) sc_l_shuffled.nd (o_kd (E := fun (b_ : Unit) => (oL pStr) ([])) (x_nil pStr)) fun (b125 : Unit) x124 v127 G126 => s_T (T := grd (rg (a2.length : Int) = true) ((forS (rngL 0 (a2.length : Int).toNat) ((x122, x124, a1) : (List Str) × (List Str) × (List Int)) fun x130 s129 => (M_l_next (s129.2.2) ((s129.1).length : Int)).bind fun r133 => (some (r133.1 : Int)).bind fun x134 => (atI (s129.1) x134).bind fun x136 => grd ((s129.2.1).length < sizeLine) (grd ((cutL (s129.1) none (some x134)).length + (cutL (s129.1) (some (x134 + (1 : Int))) none).length ≤ sizeLine) ((some (((cutL (s129.1) none (some x134)) ++ (cutL (s129.1) (some (x134 + (1 : Int))) none)) : List Str)).bind fun x138 => some (x138, ((s129.2.1) ++ [x136]), r133.2)))).bind fun s131 => some (s131.2.1, s131.2.2))) (s_forS PassesOwn.never (fun (b_ : Unit) (s_ : (List Str) × (List Str) × (List Int)) => ([some (pV v1), some ((pL pStr) a2), some ((pL pStr) s_.1), some (pV v127), none, none], [⟨G126, v127, (oL pStr) s_.2.1, false⟩, ⟨G1, v1, (oL pInt) s_.2.2, true⟩])) (fun (b_ : Unit) => (x122, x124, a1)) (i_rng1 m_range (x_kd (E := fun (b_ : Unit) => pInt (a2.length : Int)) (x_lenL (Ee := pStr) m_len (x_var (p := (pL pStr) a2) 1) (fun _ => rdF)))) (pg_name (i := 4) sc_l_shuffled.nd rfl (by first | exact .inl rfl | exact .inr rfl)) (tg_name 4) (fun _ => ⟨rfl, rfl, rfl, rfl, trivial⟩) (fun _ => List.Sublist.refl _) (fun b128 x130 s129 => s_T (T := (M_l_next (s129.2.2) ((s129.1).length : Int)).bind fun r133 => (some (r133.1 : Int)).bind fun x134 => (atI (s129.1) x134).bind fun x136 => grd ((s129.2.1).length < sizeLine) (grd ((cutL (s129.1) none (some x134)).length + (cutL (s129.1) (some (x134 + (1 : Int))) none).length ≤ sizeLine) ((some (((cutL (s129.1) none (some x134)) ++ (cutL (s129.1) (some (x134 + (1 : Int))) none)) : List Str)).bind fun x138 => some (x138, ((s129.2.1) ++ [x136]), r133.2)))) (s_let (i := 5) pInt sc_l_shuffled.nd (x_kd (E := fun (b_ : ((Unit × Unit) × (Int × (List Int)))) => pInt b_.2.1) (x_OF_f (kk := 1) (E1 := (oL pInt)) (E2 := pInt) (s1 := fun (_ : Unit) (_ : Unit) => s129.2.2) (G1 := G1) (v1 := v1) k_l_next (hr.mono (by decide)) g_l_next F_l_next.kp b_l_next 1 (x_var (p := pV v1) 0) (fun _ => x_kd (E := fun (b_ : Unit) => pInt ((s129.1).length : Int)) (x_lenL (Ee := pStr) m_len (x_var (p := (pL pStr) s129.1) 2) (fun _ => rdF))) (fun _ _ => rfl) (hw_of 1))) fun (b135 : ((Unit × Unit) × (Int × (List Int)))) x134 => s_T (T := (atI (s129.1) x134).bind fun x136 => grd ((s129.2.1).length < sizeLine) (grd ((cutL (s129.1) none (some x134)).length + (cutL (s129.1) (some (x134 + (1 : Int))) none).length ≤ sizeLine) ((some (((cutL (s129.1) none (some x134)) ++ (cutL (s129.1) (some (x134 + (1 : Int))) none)) : List Str)).bind fun x138 => some (x138, ((s129.2.1) ++ [x136]), b135.2.2)))) (s_expr (x_app 0 (x_var (p := pV v127) 3) (fun _ => x_kd (E := fun (b_ : ((Unit × Unit) × Str)) => pStr b_.2) (x_ixL (Ee := pStr) (x_var (p := (pL pStr) s129.1) 2) (fun _ => x_var (p := pInt x134) 5) (fun _ _ => rdF))) (fun _ => rfl) (fun _ _ => rfl) (hw_of 0)) fun (b137 : (Unit × ((Unit × Unit) × Str))) => s_T (T := grd ((cutL (s129.1) none (some x134)).length + (cutL (s129.1) (some (x134 + (1 : Int))) none).length ≤ sizeLine) ((some (((cutL (s129.1) none (some x134)) ++ (cutL (s129.1) (some (x134 + (1 : Int))) none)) : List Str)).bind fun x138 => some (x138, ((s129.2.1) ++ [b137.2.2]), b135.2.2))) (s_let (i := 2) (pL pStr) sc_l_shuffled.nd (x_kd (E := fun (b_ : ((Unit × (Unit × Unit)) × (Unit × ((Unit × Unit) × Unit)))) => (pL pStr) ((cutL (s129.1) none (some x134)) ++ (cutL (s129.1) (some (x134 + (1 : Int))) none))) (x_frz (o_kd (E := fun (b_ : ((Unit × (Unit × Unit)) × (Unit × ((Unit × Unit) × Unit)))) => (oL pStr) ((cutL (s129.1) none (some x134)) ++ (cutL (s129.1) (some (x134 + (1 : Int))) none))) (x_cat (Ee := pStr) (x_kd (E := fun (b_ : (Unit × (Unit × Unit))) => (pL pStr) (cutL (s129.1) none (some x134))) (x_frz (o_kd (E := fun (b_ : (Unit × (Unit × Unit))) => (oL pStr) (cutL (s129.1) none (some x134))) (x_slL (Ee := pStr) (x_var (p := (pL pStr) s129.1) 2) (fun _ => p_none) (fun _ _ => p_some (i := fun (b_ : Unit) => x134) (x_var (p := pInt x134) 5)) (fun _ _ _ => rdF))))) (fun _ => x_kd (E := fun (b_ : (Unit × ((Unit × Unit) × Unit))) => (pL pStr) (cutL (s129.1) (some (x134 + (1 : Int))) none)) (x_frz (o_kd (E := fun (b_ : (Unit × ((Unit × Unit) × Unit))) => (oL pStr) (cutL (s129.1) (some (x134 + (1 : Int))) none)) (x_slL (Ee := pStr) (x_var (p := (pL pStr) s129.1) 2) (fun _ => p_some (i := fun (b_ : (Unit × Unit)) => (x134 + (1 : Int))) (x_kd (E := fun (b_ : (Unit × Unit)) => pInt (x134 + (1 : Int))) (x_add (x_var (p := pInt x134) 5) (fun _ => x_int (i := 1))))) (fun _ _ => p_none) (fun _ _ _ => rdF))))) (fun _ _ => rdF) (fun _ _ => rdF))))) fun (b139 : ((Unit × (Unit × Unit)) × (Unit × ((Unit × Unit) × Unit)))) x138 => s_end (x138, ((s129.2.1) ++ [b137.2.2]), b135.2.2) rfl ⟨rfl, rfl, rfl, rfl, trivial⟩ (List.Sublist.refl _))))) fun b128 s131 => s_T (T := some (s131.2.1, s131.2.2)) (s_retV 0 (P := (fun (r : (List Str) × (List Int)) => [⟨G1, v1, (oL pInt) r.2, true⟩])) (Ro := (fun (r : (List Str) × (List Int)) => (oL pStr) r.1)) (ι := id) (rv := fun _ => (s131.2.1, s131.2.2)) (fun _ _ _ h => h) (x_var (p := pV v127) 3) (fun _ => rfl) (fun _ => List.Sublist.refl _)))))) (by unfold M_l_shuffled; rfl)
end
end My
end
section
set_option Elab.async false
set_option linter.all false
set_option maxRecDepth 100000
set_option maxHeartbeats 4000000
set_option pp.maxSteps 200
namespace My
open PySem PySem.Spec PyProof.Rows L2 L3
section
variable {P : Program} {w : World} {K : PySem.W.Frag} {mg : Str → Option Value} {base : Heap}
theorem sc_l_many_names : FnScope ["_law_stream_here", "_law_count", "_law_head", "_law_tail", "_law_shift", "_law_k"] ["_law_stream_here", "_law_count"] (defScope (top 11)) := ⟨rfl, rfl, rfl, by decide +kernel, rfl, by decide +kernel, by decide +kernel⟩
theorem ok_l_many_names {f : Addr} {fd : FuncData} (C : Ev K mg) (FD : FnP K "_law_many_names" (top 11) f fd)   : FnOk P w K mg base CX0 2 f fd ["_law_stream_here", "_law_count"] (Sp_OF_o (oL pInt) pInt M_l_many_names (oL pStr)) := by
  have m_int := C.m_int
  have m_range := C.m_range
  have m_str := C.m_str
  obtain ⟨f_l_next, fd_l_next, F_l_next, g_l_next⟩ := C.f_l_next
  have k_l_next := ok_l_next (P := P) (w := w) (base := base) C F_l_next
  have b_l_next : Binds K fd_l_next ["_law_stream_here", "_law_size"] [] := F_l_next.bindsN fun _ _ _ _ _ _ us hl => match us, hl with | [_, _], _ => rfl
  refine fn_OF_o FD sc_l_many_names rfl fun cdv A outer s H E hr v1 G1 a1 a2 => ?_
  exact s_is (s_T (T := (M_l_next a1 (4 : Int)).bind fun r140 => (atI ([("n" : Str), ("item_" : Str), ("q7" : Str), ("x_y_z0" : Str)]) (r140.1)).bind fun x141 => (some (x141 : Str)).bind fun x142 => (M_l_next (r140.2) (3 : Int)).bind fun r144 => (atI ([("" : Str), ("a" : Str), ("_tail" : Str)]) (r144.1)).bind fun x145 => (some (x145 : Str)).bind fun x146 => (M_l_next (r144.2) (16 : Int)).bind fun r148 => (some (r148.1 : Int)).bind fun x149 => grd (rg a2 = true) ((compM (rngL 0 a2.toNat) () (fun x152 s153 => if true = true then grd ((sm x152 || sm (7 : Int)) = true) (grd (0 < (16 : Int)) (grd ((((x152 * (7 : Int)) + x149) % (16 : Int)).natAbs.log2 < 1920) (grd (x142.length + (Str.ofString (toString (((x152 * (7 : Int)) + x149) % (16 : Int)))).length ≤ sizeLine) (grd ((x142 ++ (Str.ofString (toString (((x152 * (7 : Int)) + x149) % (16 : Int))))).length + x146.length ≤ sizeLine) (some (some ((x142 ++ (Str.ofString (toString (((x152 * (7 : Int)) + x149) % (16 : Int))))) ++ x146), ())))))) else some (none, ()))).bind fun r155 => some (r155.1, r148.2))) (s_let (i := 2) pStr sc_l_many_names.nd (x_kd (E := fun (b_ : (((Unit × (Unit × (Unit × (Unit × Unit)))) × ((Unit × Unit) × (Int × (List Int)))) × Str)) => pStr b_.2) (x_ixL (Ee := pStr) (x_kd (E := fun (b_ : (Unit × (Unit × (Unit × (Unit × Unit))))) => (pL pStr) ([("n" : Str), ("item_" : Str), ("q7" : Str), ("x_y_z0" : Str)])) (x_frz (o_kd (E := fun (b_ : (Unit × (Unit × (Unit × (Unit × Unit))))) => (oL pStr) ([("n" : Str), ("item_" : Str), ("q7" : Str), ("x_y_z0" : Str)])) (x_disp pStr (fun _ => [_, _, _, _]) (a_cons x_str (fun _ => a_cons x_str (fun _ => a_cons x_str (fun _ => a_cons x_str (fun _ => a_nil))))) (fun _ => rfl) (fun _ => by simp))))) (fun _ => x_kd (E := fun (b_ : ((Unit × Unit) × (Int × (List Int)))) => pInt b_.2.1) (x_OF_f (kk := 1) (E1 := (oL pInt)) (E2 := pInt) (s1 := fun (_ : Unit) (_ : Unit) => a1) (G1 := G1) (v1 := v1) k_l_next (hr.mono (by decide)) g_l_next F_l_next.kp b_l_next 0 (x_var (p := pV v1) 0) (fun _ => x_int (i := 4)) (fun _ _ => rfl) (hw_of 0))) (fun _ _ => rdF))) fun (b143 : (((Unit × (Unit × (Unit × (Unit × Unit)))) × ((Unit × Unit) × (Int × (List Int)))) × Str)) x142 => s_T (T := (M_l_next (b143.1.2.2.2) (3 : Int)).bind fun r144 => (atI ([("" : Str), ("a" : Str), ("_tail" : Str)]) (r144.1)).bind fun x145 => (some (x145 : Str)).bind fun x146 => (M_l_next (r144.2) (16 : Int)).bind fun r148 => (some (r148.1 : Int)).bind fun x149 => grd (rg a2 = true) ((compM (rngL 0 a2.toNat) () (fun x152 s153 => if true = true then grd ((sm x152 || sm (7 : Int)) = true) (grd (0 < (16 : Int)) (grd ((((x152 * (7 : Int)) + x149) % (16 : Int)).natAbs.log2 < 1920) (grd (x142.length + (Str.ofString (toString (((x152 * (7 : Int)) + x149) % (16 : Int)))).length ≤ sizeLine) (grd ((x142 ++ (Str.ofString (toString (((x152 * (7 : Int)) + x149) % (16 : Int))))).length + x146.length ≤ sizeLine) (some (some ((x142 ++ (Str.ofString (toString (((x152 * (7 : Int)) + x149) % (16 : Int))))) ++ x146), ())))))) else some (none, ()))).bind fun r155 => some (r155.1, r148.2))) (s_let (i := 3) pStr sc_l_many_names.nd (x_kd (E := fun (b_ : (((Unit × (Unit × (Unit × Unit))) × ((Unit × Unit) × (Int × (List Int)))) × Str)) => pStr b_.2) (x_ixL (Ee := pStr) (x_kd (E := fun (b_ : (Unit × (Unit × (Unit × Unit)))) => (pL pStr) ([("" : Str), ("a" : Str), ("_tail" : Str)])) (x_frz (o_kd (E := fun (b_ : (Unit × (Unit × (Unit × Unit)))) => (oL pStr) ([("" : Str), ("a" : Str), ("_tail" : Str)])) (x_disp pStr (fun _ => [_, _, _]) (a_cons x_str (fun _ => a_cons x_str (fun _ => a_cons x_str (fun _ => a_nil)))) (fun _ => rfl) (fun _ => by simp))))) (fun _ => x_kd (E := fun (b_ : ((Unit × Unit) × (Int × (List Int)))) => pInt b_.2.1) (x_OF_f (kk := 1) (E1 := (oL pInt)) (E2 := pInt) (s1 := fun (_ : Unit) (_ : Unit) => b143.1.2.2.2) (G1 := G1) (v1 := v1) k_l_next (hr.mono (by decide)) g_l_next F_l_next.kp b_l_next 0 (x_var (p := pV v1) 0) (fun _ => x_int (i := 3)) (fun _ _ => rfl) (hw_of 0))) (fun _ _ => rdF))) fun (b147 : (((Unit × (Unit × (Unit × Unit))) × ((Unit × Unit) × (Int × (List Int)))) × Str)) x146 => s_T (T := (M_l_next (b147.1.2.2.2) (16 : Int)).bind fun r148 => (some (r148.1 : Int)).bind fun x149 => grd (rg a2 = true) ((compM (rngL 0 a2.toNat) () (fun x152 s153 => if true = true then grd ((sm x152 || sm (7 : Int)) = true) (grd (0 < (16 : Int)) (grd ((((x152 * (7 : Int)) + x149) % (16 : Int)).natAbs.log2 < 1920) (grd (x142.length + (Str.ofString (toString (((x152 * (7 : Int)) + x149) % (16 : Int)))).length ≤ sizeLine) (grd ((x142 ++ (Str.ofString (toString (((x152 * (7 : Int)) + x149) % (16 : Int))))).length + x146.length ≤ sizeLine) (some (some ((x142 ++ (Str.ofString (toString (((x152 * (7 : Int)) + x149) % (16 : Int))))) ++ x146), ())))))) else some (none, ()))).bind fun r155 => some (r155.1, r148.2))) (s_let (i := 4) pInt sc_l_many_names.nd (x_kd (E := fun (b_ : ((Unit × Unit) × (Int × (List Int)))) => pInt b_.2.1) (x_OF_f (kk := 1) (E1 := (oL pInt)) (E2 := pInt) (s1 := fun (_ : Unit) (_ : Unit) => b147.1.2.2.2) (G1 := G1) (v1 := v1) k_l_next (hr.mono (by decide)) g_l_next F_l_next.kp b_l_next 0 (x_var (p := pV v1) 0) (fun _ => x_int (i := 16)) (fun _ _ => rfl) (hw_of 0))) fun (b150 : ((Unit × Unit) × (Int × (List Int)))) x149 => s_T (T := grd (rg a2 = true) ((compM (rngL 0 a2.toNat) () (fun x152 s153 => if true = true then grd ((sm x152 || sm (7 : Int)) = true) (grd (0 < (16 : Int)) (grd ((((x152 * (7 : Int)) + x149) % (16 : Int)).natAbs.log2 < 1920) (grd (x142.length + (Str.ofString (toString (((x152 * (7 : Int)) + x149) % (16 : Int)))).length ≤ sizeLine) (grd ((x142 ++ (Str.ofString (toString (((x152 * (7 : Int)) + x149) % (16 : Int))))).length + x146.length ≤ sizeLine) (some (some ((x142 ++ (Str.ofString (toString (((x152 * (7 : Int)) + x149) % (16 : Int))))) ++ x146), ())))))) else some (none, ()))).bind fun r155 => some (r155.1, b150.2.2))) (s_retO (P := (fun (r : (List Str) × (List Int)) => [⟨G1, v1, (oL pInt) r.2, true⟩])) (Ro := (fun (r : (List Str) × (List Int)) => (oL pStr) r.1)) (ι := id) (rv := fun (b : (Unit × ((List Str) × Unit))) => (b.2.1, b150.2.2)) (fun _ _ _ h => h) (o_kd (o_kd (E := fun (b_ : (Unit × ((List Str) × Unit))) => (oL pStr) b_.2.1) (x_lc (own := [("_law_k", 5)]) (C := fun (b_ : Unit) (s_ : Unit) => [⟨G1, v1, (oL pInt) b150.2.2, true⟩]) (s0 := fun (b_ : Unit) => ()) (s2 := fun (b_ : Unit) (x_ : Int) (s_ : Unit) (c_ : Unit) => ()) (s3 := fun (b_ : Unit) (x_ : Int) (s_ : Unit) (c_ : Unit) (d_ : ((Unit × (((Unit × Unit) × Unit) × Unit)) × Unit)) => ()) (Ex := pInt) (Ee := pStr) (δ := Str) (y := fun (b_ : Unit) (x_ : Int) (s_ : Unit) (c_ : Unit) (d_ : ((Unit × (((Unit × Unit) × Unit) × Unit)) × Unit)) => ((x142 ++ (Str.ofString (toString (((x_ * (7 : Int)) + x149) % (16 : Int))))) ++ x146)) (T2 := fun (b_ : Unit) (x_ : Int) (s_ : Unit) (c_ : Unit) => grd ((sm x_ || sm (7 : Int)) = true) (grd (0 < (16 : Int)) (grd ((((x_ * (7 : Int)) + x149) % (16 : Int)).natAbs.log2 < 1920) (grd (x142.length + (Str.ofString (toString (((x_ * (7 : Int)) + x149) % (16 : Int)))).length ≤ sizeLine) (grd ((x142 ++ (Str.ofString (toString (((x_ * (7 : Int)) + x149) % (16 : Int))))).length + x146.length ≤ sizeLine) (some (some ((x142 ++ (Str.ofString (toString (((x_ * (7 : Int)) + x149) % (16 : Int))))) ++ x146), ()))))))) (c := fun (b_ : Unit) (x_ : Int) (s_ : Unit) (c_ : Unit) => true) (f := fun (b_ : Unit) (x_ : Int) (s_ : Unit) => if true = true then grd ((sm x_ || sm (7 : Int)) = true) (grd (0 < (16 : Int)) (grd ((((x_ * (7 : Int)) + x149) % (16 : Int)).natAbs.log2 < 1920) (grd (x142.length + (Str.ofString (toString (((x_ * (7 : Int)) + x149) % (16 : Int)))).length ≤ sizeLine) (grd ((x142 ++ (Str.ofString (toString (((x_ * (7 : Int)) + x149) % (16 : Int))))).length + x146.length ≤ sizeLine) (some (some ((x142 ++ (Str.ofString (toString (((x_ * (7 : Int)) + x149) % (16 : Int))))) ++ x146), ())))))) else some (none, ())) sc_l_many_names.nd (i_rng1 m_range (x_var (p := pInt a2) 1)) (blkOk_by (own := [("_law_k", 5)]) (N := ["_law_stream_here", "_law_count", "_law_head", "_law_tail", "_law_shift", "_law_k"]) (sc := defScope (top 11)) (by decide +kernel)) (fun _ _ _ _ _ => pg_name (i := 5) sc_l_many_names.nd rfl (by first | exact .inl rfl | exact .inr rfl)) (tw_name 5) (fun _ => rfl) (by exact fun q154 _ _ _ _ _ b151 x152 s153 => pts_T) (by exact fun q154 _ _ _ _ _ b151 x152 s153 _ => x_out (x_kd (E := fun (b_ : ((Unit × (((Unit × Unit) × Unit) × Unit)) × Unit)) => pStr ((x142 ++ (Str.ofString (toString (((x152 * (7 : Int)) + x149) % (16 : Int))))) ++ x146)) (x_addS (x_kd (E := fun (b_ : (Unit × (((Unit × Unit) × Unit) × Unit))) => pStr (x142 ++ (Str.ofString (toString (((x152 * (7 : Int)) + x149) % (16 : Int)))))) (x_addS (x_var (p := pStr x142) 2) (fun _ => x_kd (E := fun (b_ : (((Unit × Unit) × Unit) × Unit)) => pStr (Str.ofString (toString (((x152 * (7 : Int)) + x149) % (16 : Int))))) (x_strI m_str (x_kd (E := fun (b_ : (((Unit × Unit) × Unit) × Unit)) => pInt (((x152 * (7 : Int)) + x149) % (16 : Int))) (x_mod (x_kd (E := fun (b_ : ((Unit × Unit) × Unit)) => pInt ((x152 * (7 : Int)) + x149)) (x_intI m_int (x_kd (E := fun (b_ : ((Unit × Unit) × Unit)) => pInt ((x152 * (7 : Int)) + x149)) (x_add (x_kd (E := fun (b_ : (Unit × Unit)) => pInt (x152 * (7 : Int))) (x_mul (x_var (p := pInt x152) 5) (fun _ => x_int (i := 7)))) (fun _ => x_var (p := pInt x149) 4))))) (fun _ => x_int (i := 16)))))))) (fun _ => x_var (p := pStr x146) 3))))))) (fun _ => List.Sublist.refl _)))))) (by unfold M_l_many_names; rfl)
end
end My
end
section
set_option Elab.async false
set_option linter.all false
set_option maxRecDepth 100000
set_option maxHeartbeats 4000000
set_option pp.maxSteps 200
namespace My
open PySem PySem.Spec PyProof.Rows L2 L3
section
variable {P : Program} {w : World} {K : PySem.W.Frag} {mg : Str → Option Value} {base : Heap}
theorem sc_l_drawn_names : FnScope ["_law_stream_here", "_law_count"] ["_law_stream_here", "_law_count"] (defScope (top 12)) := ⟨rfl, rfl, rfl, by decide +kernel, rfl, by decide +kernel, by decide +kernel⟩
theorem ok_l_drawn_names {f : Addr} {fd : FuncData} (C : Ev K mg) (FD : FnP K "_law_drawn_names" (top 12) f fd)   : FnOk P w K mg base CX0 3 f fd ["_law_stream_here", "_law_count"] (Sp_OF_o (oL pInt) pInt M_l_drawn_names (oL pStr)) := by
  obtain ⟨f_l_many_names, fd_l_many_names, F_l_many_names, g_l_many_names⟩ := C.f_l_many_names
  have k_l_many_names := ok_l_many_names (P := P) (w := w) (base := base) C F_l_many_names
  have b_l_many_names : Binds K fd_l_many_names ["_law_stream_here", "_law_count"] [] := F_l_many_names.bindsN fun _ _ _ _ _ _ us hl => match us, hl with | [_, _], _ => rfl
  obtain ⟨f_l_names, fd_l_names, F_l_names, g_l_names⟩ := C.f_l_names
  have k_l_names := ok_l_names (P := P) (w := w) (base := base) C F_l_names
  have b_l_names : Binds K fd_l_names ["_law_stream_here", "_law_count"] [] := F_l_names.bindsN fun _ _ _ _ _ _ us hl => match us, hl with | [_, _], _ => rfl
  refine fn_OF_o FD sc_l_drawn_names rfl fun cdv A outer s H E hr v1 G1 a1 a2 => ?_
  exact s_is (s_T (T := if (decide ((8 : Int) < a2)) = true then (M_l_many_names a1 a2).bind fun r157 => some (r157.1, r157.2) else (M_l_names a1 a2).bind fun r158 => some (r158.1, r158.2)) (s_ifT (ins_F _) (t_kd (c := fun (b_ : (Unit × Unit)) => (decide ((8 : Int) < a2))) (t_gt (x_var (p := pInt a2) 1) (fun _ => x_int (i := 8)))) (fun (b156 : (Unit × Unit)) => s_T (T := (M_l_many_names a1 a2).bind fun r157 => some (r157.1, r157.2)) (s_retO (P := (fun (r : (List Str) × (List Int)) => [⟨G1, v1, (oL pInt) r.2, true⟩])) (Ro := (fun (r : (List Str) × (List Int)) => (oL pStr) r.1)) (ι := id) (rv := fun (b : ((Unit × Unit) × ((List Str) × (List Int)))) => (b.2.1, b.2.2)) (fun _ _ _ h => h) (o_kd (o_kd (E := fun (b_ : ((Unit × Unit) × ((List Str) × (List Int)))) => (oL pStr) b_.2.1) (x_OF_o (kk := 2) (E1 := (oL pInt)) (E2 := pInt) (s1 := fun (_ : Unit) (_ : Unit) => a1) (G1 := G1) (v1 := v1) k_l_many_names (hr.mono (by decide)) g_l_many_names F_l_many_names.kp b_l_many_names 0 (x_var (p := pV v1) 0) (fun _ => x_var (p := pInt a2) 1) (fun _ _ => rfl) (hw_of 0)))) (fun _ => List.Sublist.refl _))) fun (b156 : (Unit × Unit)) => s_T (T := (M_l_names a1 a2).bind fun r158 => some (r158.1, r158.2)) (s_retO (P := (fun (r : (List Str) × (List Int)) => [⟨G1, v1, (oL pInt) r.2, true⟩])) (Ro := (fun (r : (List Str) × (List Int)) => (oL pStr) r.1)) (ι := id) (rv := fun (b : ((Unit × Unit) × ((List Str) × (List Int)))) => (b.2.1, b.2.2)) (fun _ _ _ h => h) (o_kd (o_kd (E := fun (b_ : ((Unit × Unit) × ((List Str) × (List Int)))) => (oL pStr) b_.2.1) (x_OF_o (kk := 2) (E1 := (oL pInt)) (E2 := pInt) (s1 := fun (_ : Unit) (_ : Unit) => a1) (G1 := G1) (v1 := v1) k_l_names (hr.mono (by decide)) g_l_names F_l_names.kp b_l_names 0 (x_var (p := pV v1) 0) (fun _ => x_var (p := pInt a2) 1) (fun _ _ => rfl) (hw_of 0)))) (fun _ => List.Sublist.refl _)))) (by unfold M_l_drawn_names; rfl)
end
end My
end
section
set_option Elab.async false
set_option linter.all false
set_option maxRecDepth 100000
set_option maxHeartbeats 4000000
set_option pp.maxSteps 200
namespace My
open PySem PySem.Spec PyProof.Rows L2 L3
section
variable {P : Program} {w : World} {K : PySem.W.Frag} {mg : Str → Option Value} {base : Heap}
theorem sc_l_two : FnScope ["_law_stream_here", "_law_names_here", "_law_pool_here", "_law_chained", "_law_turned", "_law_gap", "_law_whole", "_law_chosen", "_law_name", "_law_some", "_law_at", "_law_values"] ["_law_stream_here", "_law_names_here", "_law_pool_here"] (defScope (top 13)) := ⟨rfl, rfl, rfl, by decide +kernel, rfl, by decide +kernel, by decide +kernel⟩
theorem ok_l_two {f : Addr} {fd : FuncData} (C : Ev K mg) (FD : FnP K "_law_two" (top 13) f fd)   : FnOk P w K mg base CX0 3 f fd ["_law_stream_here", "_law_names_here", "_law_pool_here"] (Sp_OFF_o (oL pInt) (pL pStr) (pL pInt) M_l_two (oL (pM (κ := Str) pInt))) := by
  have m_int := C.m_int
  have m_len := C.m_len
  obtain ⟨f_l_next, fd_l_next, F_l_next, g_l_next⟩ := C.f_l_next
  have k_l_next := ok_l_next (P := P) (w := w) (base := base) C F_l_next
  have b_l_next : Binds K fd_l_next ["_law_stream_here", "_law_size"] [] := F_l_next.bindsN fun _ _ _ _ _ _ us hl => match us, hl with | [_, _], _ => rfl
  obtain ⟨f_l_shuffled, fd_l_shuffled, F_l_shuffled, g_l_shuffled⟩ := C.f_l_shuffled
  have k_l_shuffled := ok_l_shuffled (P := P) (w := w) (base := base) C F_l_shuffled
  have b_l_shuffled : Binds K fd_l_shuffled ["_law_stream_here", "_law_things"] [] := F_l_shuffled.bindsN fun _ _ _ _ _ _ us hl => match us, hl with | [_, _], _ => rfl
  refine fn_OFF_o FD sc_l_two rfl fun cdv A outer s H E hr v1 G1 a1 a2 a3 => ?_
  exact s_is (s_T (T := (M_l_next a1 (3 : Int)).bind fun r159 => (some ((decide ((r159.1) = (0 : Int))) : Bool)).bind fun x160 => (M_l_next (r159.2) (2 : Int)).bind fun r162 => (some (r162.1 : Int)).bind fun x163 => (some ((4 : Int) : Int)).bind fun x165 => (if x160 = true then (some ((1 : Int) : Int)).bind fun x217 => some x217 else some x165).bind fun s168 => (some (([] : List (Str × Int)) : List (Str × Int))).bind fun x169 => (some (([] : List (Str × Int)) : List (Str × Int))).bind fun x173 => (M_l_shuffled (r162.2) a2).bind fun r177 => (forS (r177.1) ((x173, x169, r177.2) : (List (Str × Int)) × (List (Str × Int)) × (List Int)) fun x180 s179 => (idx? x180 a2).bind fun n195 => (some ((n195 : Int) : Int)).bind fun x196 => grd (0 < (a3.length : Int)) ((atI a3 ((x196 + x163) % (a3.length : Int))).bind fun x198 => grd (0 < (a3.length : Int)) ((atI a3 (((x196 + (1 : Int)) - x163) % (a3.length : Int))).bind fun x199 => (some ([x198, x199] : List Int)).bind fun x200 => (if (!x160) = true then (M_l_next (s179.2.2) (a3.length : Int)).bind fun r211 => (atI a3 (r211.1)).bind fun x212 => (M_l_next (r211.2) (a3.length : Int)).bind fun r213 => (atI a3 (r213.1)).bind fun x214 => (some ([x212, x214] : List Int)).bind fun x215 => some (x215, r213.2) else some (x200, s179.2.2)).bind fun s203 => (atI (s203.1) (0 : Int)).bind fun x204 => grd ((s179.2.1).length < sizeLine) ((M_l_next (s203.2) (12 : Int)).bind fun r206 => (if (decide (s168 ≤ (r206.1))) = true then (atI (s203.1) (1 : Int)).bind fun x209 => grd ((s179.1).length < sizeLine) (some ((dput (s179.1) x180 x209), r206.2)) else some (s179.1, r206.2)).bind fun s208 => some (s208.1, (dput (s179.2.1) x180 x204), s208.2))))).bind fun s181 => (some (([] : List (Str × Int)) : List (Str × Int))).bind fun x182 => (M_l_shuffled (s181.2.2) a2).bind fun r186 => (forS (r186.1) (x182 : (List (Str × Int))) fun x189 s188 => (if (dhas (s181.1) x189) = true then (dget (s181.1) x189).bind fun x193 => grd (s188.length < sizeLine) (some (dput s188 x189 x193)) else some s188).bind fun s192 => some s192).bind fun s190 => some ([s181.2.1, s190], r186.2)) (s_let (i := 3) pBl sc_l_two.nd (x_kd (E := fun (b_ : (((Unit × Unit) × (Int × (List Int))) × Unit)) => pBl (decide ((b_.1.2.1) = (0 : Int)))) (x_eqI (x_kd (E := fun (b_ : ((Unit × Unit) × (Int × (List Int)))) => pInt b_.2.1) (x_OF_f (kk := 1) (E1 := (oL pInt)) (E2 := pInt) (s1 := fun (_ : Unit) (_ : Unit) => a1) (G1 := G1) (v1 := v1) k_l_next (hr.mono (by decide)) g_l_next F_l_next.kp b_l_next 0 (x_var (p := pV v1) 0) (fun _ => x_int (i := 3)) (fun _ _ => rfl) (hw_of 0))) (fun _ => x_int (i := 0)))) fun (b161 : (((Unit × Unit) × (Int × (List Int))) × Unit)) x160 => s_T (T := (M_l_next (b161.1.2.2) (2 : Int)).bind fun r162 => (some (r162.1 : Int)).bind fun x163 => (some ((4 : Int) : Int)).bind fun x165 => (if x160 = true then (some ((1 : Int) : Int)).bind fun x217 => some x217 else some x165).bind fun s168 => (some (([] : List (Str × Int)) : List (Str × Int))).bind fun x169 => (some (([] : List (Str × Int)) : List (Str × Int))).bind fun x173 => (M_l_shuffled (r162.2) a2).bind fun r177 => (forS (r177.1) ((x173, x169, r177.2) : (List (Str × Int)) × (List (Str × Int)) × (List Int)) fun x180 s179 => (idx? x180 a2).bind fun n195 => (some ((n195 : Int) : Int)).bind fun x196 => grd (0 < (a3.length : Int)) ((atI a3 ((x196 + x163) % (a3.length : Int))).bind fun x198 => grd (0 < (a3.length : Int)) ((atI a3 (((x196 + (1 : Int)) - x163) % (a3.length : Int))).bind fun x199 => (some ([x198, x199] : List Int)).bind fun x200 => (if (!x160) = true then (M_l_next (s179.2.2) (a3.length : Int)).bind fun r211 => (atI a3 (r211.1)).bind fun x212 => (M_l_next (r211.2) (a3.length : Int)).bind fun r213 => (atI a3 (r213.1)).bind fun x214 => (some ([x212, x214] : List Int)).bind fun x215 => some (x215, r213.2) else some (x200, s179.2.2)).bind fun s203 => (atI (s203.1) (0 : Int)).bind fun x204 => grd ((s179.2.1).length < sizeLine) ((M_l_next (s203.2) (12 : Int)).bind fun r206 => (if (decide (s168 ≤ (r206.1))) = true then (atI (s203.1) (1 : Int)).bind fun x209 => grd ((s179.1).length < sizeLine) (some ((dput (s179.1) x180 x209), r206.2)) else some (s179.1, r206.2)).bind fun s208 => some (s208.1, (dput (s179.2.1) x180 x204), s208.2))))).bind fun s181 => (some (([] : List (Str × Int)) : List (Str × Int))).bind fun x182 => (M_l_shuffled (s181.2.2) a2).bind fun r186 => (forS (r186.1) (x182 : (List (Str × Int))) fun x189 s188 => (if (dhas (s181.1) x189) = true then (dget (s181.1) x189).bind fun x193 => grd (s188.length < sizeLine) (some (dput s188 x189 x193)) else some s188).bind fun s192 => some s192).bind fun s190 => some ([s181.2.1, s190], r186.2)) (s_let (i := 4) pInt sc_l_two.nd (x_kd (E := fun (b_ : ((Unit × Unit) × (Int × (List Int)))) => pInt b_.2.1) (x_OF_f (kk := 1) (E1 := (oL pInt)) (E2 := pInt) (s1 := fun (_ : Unit) (_ : Unit) => b161.1.2.2) (G1 := G1) (v1 := v1) k_l_next (hr.mono (by decide)) g_l_next F_l_next.kp b_l_next 0 (x_var (p := pV v1) 0) (fun _ => x_int (i := 2)) (fun _ _ => rfl) (hw_of 0))) fun (b164 : ((Unit × Unit) × (Int × (List Int)))) x163 => s_T (T := (some ((4 : Int) : Int)).bind fun x165 => (if x160 = true then (some ((1 : Int) : Int)).bind fun x217 => some x217 else some x165).bind fun s168 => (some (([] : List (Str × Int)) : List (Str × Int))).bind fun x169 => (some (([] : List (Str × Int)) : List (Str × Int))).bind fun x173 => (M_l_shuffled (b164.2.2) a2).bind fun r177 => (forS (r177.1) ((x173, x169, r177.2) : (List (Str × Int)) × (List (Str × Int)) × (List Int)) fun x180 s179 => (idx? x180 a2).bind fun n195 => (some ((n195 : Int) : Int)).bind fun x196 => grd (0 < (a3.length : Int)) ((atI a3 ((x196 + x163) % (a3.length : Int))).bind fun x198 => grd (0 < (a3.length : Int)) ((atI a3 (((x196 + (1 : Int)) - x163) % (a3.length : Int))).bind fun x199 => (some ([x198, x199] : List Int)).bind fun x200 => (if (!x160) = true then (M_l_next (s179.2.2) (a3.length : Int)).bind fun r211 => (atI a3 (r211.1)).bind fun x212 => (M_l_next (r211.2) (a3.length : Int)).bind fun r213 => (atI a3 (r213.1)).bind fun x214 => (some ([x212, x214] : List Int)).bind fun x215 => some (x215, r213.2) else some (x200, s179.2.2)).bind fun s203 => (atI (s203.1) (0 : Int)).bind fun x204 => grd ((s179.2.1).length < sizeLine) ((M_l_next (s203.2) (12 : Int)).bind fun r206 => (if (decide (s168 ≤ (r206.1))) = true then (atI (s203.1) (1 : Int)).bind fun x209 => grd ((s179.1).length < sizeLine) (some ((dput (s179.1) x180 x209), r206.2)) else some (s179.1, r206.2)).bind fun s208 => some (s208.1, (dput (s179.2.1) x180 x204), s208.2))))).bind fun s181 => (some (([] : List (Str × Int)) : List (Str × Int))).bind fun x182 => (M_l_shuffled (s181.2.2) a2).bind fun r186 => (forS (r186.1) (x182 : (List (Str × Int))) fun x189 s188 => (if (dhas (s181.1) x189) = true then (dget (s181.1) x189).bind fun x193 => grd (s188.length < sizeLine) (some (dput s188 x189 x193)) else some s188).bind fun s192 => some s192).bind fun s190 => some ([s181.2.1, s190], r186.2)) (s_let (i := 5) pInt sc_l_two.nd (x_int (i := 4)) fun (b166 : Unit) x165 => s_T (T := (if x160 = true then (some ((1 : Int) : Int)).bind fun x217 => some x217 else some x165).bind fun s168 => (some (([] : List (Str × Int)) : List (Str × Int))).bind fun x169 => (some (([] : List (Str × Int)) : List (Str × Int))).bind fun x173 => (M_l_shuffled (b164.2.2) a2).bind fun r177 => (forS (r177.1) ((x173, x169, r177.2) : (List (Str × Int)) × (List (Str × Int)) × (List Int)) fun x180 s179 => (idx? x180 a2).bind fun n195 => (some ((n195 : Int) : Int)).bind fun x196 => grd (0 < (a3.length : Int)) ((atI a3 ((x196 + x163) % (a3.length : Int))).bind fun x198 => grd (0 < (a3.length : Int)) ((atI a3 (((x196 + (1 : Int)) - x163) % (a3.length : Int))).bind fun x199 => (some ([x198, x199] : List Int)).bind fun x200 => (if (!x160) = true then (M_l_next (s179.2.2) (a3.length : Int)).bind fun r211 => (atI a3 (r211.1)).bind fun x212 => (M_l_next (r211.2) (a3.length : Int)).bind fun r213 => (atI a3 (r213.1)).bind fun x214 => (some ([x212, x214] : List Int)).bind fun x215 => some (x215, r213.2) else some (x200, s179.2.2)).bind fun s203 => (atI (s203.1) (0 : Int)).bind fun x204 => grd ((s179.2.1).length < sizeLine) ((M_l_next (s203.2) (12 : Int)).bind fun r206 => (if (decide (s168 ≤ (r206.1))) = true then (atI (s203.1) (1 : Int)).bind fun x209 => grd ((s179.1).length < sizeLine) (some ((dput (s179.1) x180 x209), r206.2)) else some (s179.1, r206.2)).bind fun s208 => some (s208.1, (dput (s179.2.1) x180 x204), s208.2))))).bind fun s181 => (some (([] : List (Str × Int)) : List (Str × Int))).bind fun x182 => (M_l_shuffled (s181.2.2) a2).bind fun r186 => (forS (r186.1) (x182 : (List (Str × Int))) fun x189 s188 => (if (dhas (s181.1) x189) = true then (dget (s181.1) x189).bind fun x193 => grd (s188.length < sizeLine) (some (dput s188 x189 x193)) else some s188).bind fun s192 => some s192).bind fun s190 => some ([s181.2.1, s190], r186.2)) (s_ifN (C := fun s_ : Int => ([some (pV v1), some ((pL pStr) a2), some ((pL pInt) a3), some (pBl x160), some (pInt x163), some (pInt s_), none, none, none, none, none, none], [⟨G1, v1, (oL pInt) b164.2.2, true⟩])) (t_kd (c := fun (b_ : Unit) => x160) (t_val (x_var (p := pBl x160) 3))) (fun (b167 : Unit) => s_T (T := (some ((1 : Int) : Int)).bind fun x217 => some x217) (s_let (i := 5) pInt sc_l_two.nd (x_int (i := 1)) fun (b218 : Unit) x217 => s_end x217 rfl ⟨rfl, rfl, rfl, rfl, rfl, rfl, trivial⟩ (List.Sublist.refl _))) (fun (b167 : Unit) => s_end x165 rfl ⟨rfl, rfl, rfl, rfl, rfl, rfl, trivial⟩ (List.Sublist.refl _)) fun (b167 : Unit) s168 => s_T (T := (some (([] : List (Str × Int)) : List (Str × Int))).bind fun x169 => (some (([] : List (Str × Int)) : List (Str × Int))).bind fun x173 => (M_l_shuffled (b164.2.2) a2).bind fun r177 => (forS (r177.1) ((x173, x169, r177.2) : (List (Str × Int)) × (List (Str × Int)) × (List Int)) fun x180 s179 => (idx? x180 a2).bind fun n195 => (some ((n195 : Int) : Int)).bind fun x196 => grd (0 < (a3.length : Int)) ((atI a3 ((x196 + x163) % (a3.length : Int))).bind fun x198 => grd (0 < (a3.length : Int)) ((atI a3 (((x196 + (1 : Int)) - x163) % (a3.length : Int))).bind fun x199 => (some ([x198, x199] : List Int)).bind fun x200 => (if (!x160) = true then (M_l_next (s179.2.2) (a3.length : Int)).bind fun r211 => (atI a3 (r211.1)).bind fun x212 => (M_l_next (r211.2) (a3.length : Int)).bind fun r213 => (atI a3 (r213.1)).bind fun x214 => (some ([x212, x214] : List Int)).bind fun x215 => some (x215, r213.2) else some (x200, s179.2.2)).bind fun s203 => (atI (s203.1) (0 : Int)).bind fun x204 => grd ((s179.2.1).length < sizeLine) ((M_l_next (s203.2) (12 : Int)).bind fun r206 => (if (decide (s168 ≤ (r206.1))) = true then (atI (s203.1) (1 : Int)).bind fun x209 => grd ((s179.1).length < sizeLine) (some ((dput (s179.1) x180 x209), r206.2)) else some (s179.1, r206.2)).bind fun s208 => some (s208.1, (dput (s179.2.1) x180 x204), s208.2))))).bind fun s181 => (some (([] : List (Str × Int)) : List (Str × Int))).bind fun x182 => (M_l_shuffled (s181.2.2) a2).bind fun r186 => (forS (r186.1) (x182 : (List (Str × Int))) fun x189 s188 => (if (dhas (s181.1) x189) = true then (dget (s181.1) x189).bind fun x193 => grd (s188.length < sizeLine) (some (dput s188 x189 x193)) else some s188).bind fun s192 => some s192).bind fun s190 => some ([s181.2.1, s190], r186.2)) (s_letO (i := 6) (oM (κ := Str) pInt) sc_l_two.nd (o_kd (E := fun (b_ : Unit) => (oM (κ := Str) pInt) ([] : List (Str × Int))) (x_dict0 (κ := Str) pInt)) fun (b170 : Unit) x169 v172 G171 => s_T (T := (some (([] : List (Str × Int)) : List (Str × Int))).bind fun x173 => (M_l_shuffled (b164.2.2) a2).bind fun r177 => (forS (r177.1) ((x173, x169, r177.2) : (List (Str × Int)) × (List (Str × Int)) × (List Int)) fun x180 s179 => (idx? x180 a2).bind fun n195 => (some ((n195 : Int) : Int)).bind fun x196 => grd (0 < (a3.length : Int)) ((atI a3 ((x196 + x163) % (a3.length : Int))).bind fun x198 => grd (0 < (a3.length : Int)) ((atI a3 (((x196 + (1 : Int)) - x163) % (a3.length : Int))).bind fun x199 => (some ([x198, x199] : List Int)).bind fun x200 => (if (!x160) = true then (M_l_next (s179.2.2) (a3.length : Int)).bind fun r211 => (atI a3 (r211.1)).bind fun x212 => (M_l_next (r211.2) (a3.length : Int)).bind fun r213 => (atI a3 (r213.1)).bind fun x214 => (some ([x212, x214] : List Int)).bind fun x215 => some (x215, r213.2) else some (x200, s179.2.2)).bind fun s203 => (atI (s203.1) (0 : Int)).bind fun x204 => grd ((s179.2.1).length < sizeLine) ((M_l_next (s203.2) (12 : Int)).bind fun r206 => (if (decide (s168 ≤ (r206.1))) = true then (atI (s203.1) (1 : Int)).bind fun x209 => grd ((s179.1).length < sizeLine) (some ((dput (s179.1) x180 x209), r206.2)) else some (s179.1, r206.2)).bind fun s208 => some (s208.1, (dput (s179.2.1) x180 x204), s208.2))))).bind fun s181 => (some (([] : List (Str × Int)) : List (Str × Int))).bind fun x182 => (M_l_shuffled (s181.2.2) a2).bind fun r186 => (forS (r186.1) (x182 : (List (Str × Int))) fun x189 s188 => (if (dhas (s181.1) x189) = true then (dget (s181.1) x189).bind fun x193 => grd (s188.length < sizeLine) (some (dput s188 x189 x193)) else some s188).bind fun s192 => some s192).bind fun s190 => some ([s181.2.1, s190], r186.2)) (s_letO (i := 7) (oM (κ := Str) pInt) sc_l_two.nd (o_kd (E := fun (b_ : Unit) => (oM (κ := Str) pInt) ([] : List (Str × Int))) (x_dict0 (κ := Str) pInt)) fun (b174 : Unit) x173 v176 G175 => s_T (T := (M_l_shuffled (b164.2.2) a2).bind fun r177 => (forS (r177.1) ((x173, x169, r177.2) : (List (Str × Int)) × (List (Str × Int)) × (List Int)) fun x180 s179 => (idx? x180 a2).bind fun n195 => (some ((n195 : Int) : Int)).bind fun x196 => grd (0 < (a3.length : Int)) ((atI a3 ((x196 + x163) % (a3.length : Int))).bind fun x198 => grd (0 < (a3.length : Int)) ((atI a3 (((x196 + (1 : Int)) - x163) % (a3.length : Int))).bind fun x199 => (some ([x198, x199] : List Int)).bind fun x200 => (if (!x160) = true then (M_l_next (s179.2.2) (a3.length : Int)).bind fun r211 => (atI a3 (r211.1)).bind fun x212 => (M_l_next (r211.2) (a3.length : Int)).bind fun r213 => (atI a3 (r213.1)).bind fun x214 => (some ([x212, x214] : List Int)).bind fun x215 => some (x215, r213.2) else some (x200, s179.2.2)).bind fun s203 => (atI (s203.1) (0 : Int)).bind fun x204 => grd ((s179.2.1).length < sizeLine) ((M_l_next (s203.2) (12 : Int)).bind fun r206 => (if (decide (s168 ≤ (r206.1))) = true then (atI (s203.1) (1 : Int)).bind fun x209 => grd ((s179.1).length < sizeLine) (some ((dput (s179.1) x180 x209), r206.2)) else some (s179.1, r206.2)).bind fun s208 => some (s208.1, (dput (s179.2.1) x180 x204), s208.2))))).bind fun s181 => (some (([] : List (Str × Int)) : List (Str × Int))).bind fun x182 => (M_l_shuffled (s181.2.2) a2).bind fun r186 => (forS (r186.1) (x182 : (List (Str × Int))) fun x189 s188 => (if (dhas (s181.1) x189) = true then (dget (s181.1) x189).bind fun x193 => grd (s188.length < sizeLine) (some (dput s188 x189 x193)) else some s188).bind fun s192 => some s192).bind fun s190 => some ([s181.2.1, s190], r186.2)) (s_forS PassesOwn.never (fun (b_ : ((Unit × Unit) × ((List Str) × (List Int)))) (s_ : (List (Str × Int)) × (List (Str × Int)) × (List Int)) => ([some (pV v1), some ((pL pStr) a2), some ((pL pInt) a3), some (pBl x160), some (pInt x163), some (pInt s168), some (pV v172), some (pV v176), none, none, none, none], [⟨G175, v176, (oM (κ := Str) pInt) s_.1, false⟩, ⟨G171, v172, (oM (κ := Str) pInt) s_.2.1, false⟩, ⟨G1, v1, (oL pInt) s_.2.2, true⟩])) (fun (b_ : ((Unit × Unit) × ((List Str) × (List Int)))) => (x173, x169, b_.2.2)) (i_list (x_kd (E := fun (b_ : ((Unit × Unit) × ((List Str) × (List Int)))) => (pL pStr) b_.2.1) (x_frz (o_kd (E := fun (b_ : ((Unit × Unit) × ((List Str) × (List Int)))) => (oL pStr) b_.2.1) (x_OF_o (kk := 2) (E1 := (oL pInt)) (E2 := (pL pStr)) (s1 := fun (_ : Unit) (_ : Unit) => b164.2.2) (G1 := G1) (v1 := v1) k_l_shuffled (hr.mono (by decide)) g_l_shuffled F_l_shuffled.kp b_l_shuffled 2 (x_var (p := pV v1) 0) (fun _ => x_var (p := (pL pStr) a2) 1) (fun _ _ => rfl) (hw_of 2)))))) (pg_name (i := 8) sc_l_two.nd rfl (by first | exact .inl rfl | exact .inr rfl)) (tg_name 8) (fun _ => ⟨rfl, rfl, rfl, rfl, rfl, rfl, rfl, rfl, trivial⟩) (fun _ => List.Sublist.refl _) (fun b178 x180 s179 => s_T (T := (idx? x180 a2).bind fun n195 => (some ((n195 : Int) : Int)).bind fun x196 => grd (0 < (a3.length : Int)) ((atI a3 ((x196 + x163) % (a3.length : Int))).bind fun x198 => grd (0 < (a3.length : Int)) ((atI a3 (((x196 + (1 : Int)) - x163) % (a3.length : Int))).bind fun x199 => (some ([x198, x199] : List Int)).bind fun x200 => (if (!x160) = true then (M_l_next (s179.2.2) (a3.length : Int)).bind fun r211 => (atI a3 (r211.1)).bind fun x212 => (M_l_next (r211.2) (a3.length : Int)).bind fun r213 => (atI a3 (r213.1)).bind fun x214 => (some ([x212, x214] : List Int)).bind fun x215 => some (x215, r213.2) else some (x200, s179.2.2)).bind fun s203 => (atI (s203.1) (0 : Int)).bind fun x204 => grd ((s179.2.1).length < sizeLine) ((M_l_next (s203.2) (12 : Int)).bind fun r206 => (if (decide (s168 ≤ (r206.1))) = true then (atI (s203.1) (1 : Int)).bind fun x209 => grd ((s179.1).length < sizeLine) (some ((dput (s179.1) x180 x209), r206.2)) else some (s179.1, r206.2)).bind fun s208 => some (s208.1, (dput (s179.2.1) x180 x204), s208.2))))) (s_let (i := 10) pInt sc_l_two.nd (x_kd (E := fun (b_ : ((Unit × Unit) × Nat)) => pInt (b_.2 : Int)) (x_index flStr (x_var (p := (pL pStr) a2) 1) (fun _ => x_var (p := pStr x180) 8) (fun _ => rdF) (fun _ _ => rdF))) fun (b197 : ((Unit × Unit) × Nat)) x196 => s_T (T := grd (0 < (a3.length : Int)) ((atI a3 ((x196 + x163) % (a3.length : Int))).bind fun x198 => grd (0 < (a3.length : Int)) ((atI a3 (((x196 + (1 : Int)) - x163) % (a3.length : Int))).bind fun x199 => (some ([x198, x199] : List Int)).bind fun x200 => (if (!x160) = true then (M_l_next (s179.2.2) (a3.length : Int)).bind fun r211 => (atI a3 (r211.1)).bind fun x212 => (M_l_next (r211.2) (a3.length : Int)).bind fun r213 => (atI a3 (r213.1)).bind fun x214 => (some ([x212, x214] : List Int)).bind fun x215 => some (x215, r213.2) else some (x200, s179.2.2)).bind fun s203 => (atI (s203.1) (0 : Int)).bind fun x204 => grd ((s179.2.1).length < sizeLine) ((M_l_next (s203.2) (12 : Int)).bind fun r206 => (if (decide (s168 ≤ (r206.1))) = true then (atI (s203.1) (1 : Int)).bind fun x209 => grd ((s179.1).length < sizeLine) (some ((dput (s179.1) x180 x209), r206.2)) else some (s179.1, r206.2)).bind fun s208 => some (s208.1, (dput (s179.2.1) x180 x204), s208.2))))) (s_let (i := 11) (pL pInt) sc_l_two.nd (x_kd (E := fun (b_ : (((Unit × ((Unit × Unit) × Unit)) × Int) × (((Unit × (((Unit × Unit) × Unit) × Unit)) × Int) × Unit))) => (pL pInt) ([b_.1.2, b_.2.1.2])) (x_frz (o_kd (E := fun (b_ : (((Unit × ((Unit × Unit) × Unit)) × Int) × (((Unit × (((Unit × Unit) × Unit) × Unit)) × Int) × Unit))) => (oL pInt) ([b_.1.2, b_.2.1.2])) (x_disp pInt (fun _ => [_, _]) (a_cons (x_kd (E := fun (b_ : ((Unit × ((Unit × Unit) × Unit)) × Int)) => pInt b_.2) (x_ixL (Ee := pInt) (x_var (p := (pL pInt) a3) 2) (fun _ => x_kd (E := fun (b_ : ((Unit × Unit) × Unit)) => pInt ((x196 + x163) % (a3.length : Int))) (x_mod (x_kd (E := fun (b_ : (Unit × Unit)) => pInt (x196 + x163)) (x_intI m_int (x_kd (E := fun (b_ : (Unit × Unit)) => pInt (x196 + x163)) (x_add (x_var (p := pInt x196) 10) (fun _ => x_var (p := pInt x163) 4))))) (fun _ => x_kd (E := fun (b_ : Unit) => pInt (a3.length : Int)) (x_lenL (Ee := pInt) m_len (x_var (p := (pL pInt) a3) 2) (fun _ => rdF))))) (fun _ _ => rdF))) (fun _ => a_cons (x_kd (E := fun (b_ : ((Unit × (((Unit × Unit) × Unit) × Unit)) × Int)) => pInt b_.2) (x_ixL (Ee := pInt) (x_var (p := (pL pInt) a3) 2) (fun _ => x_kd (E := fun (b_ : (((Unit × Unit) × Unit) × Unit)) => pInt (((x196 + (1 : Int)) - x163) % (a3.length : Int))) (x_mod (x_kd (E := fun (b_ : ((Unit × Unit) × Unit)) => pInt ((x196 + (1 : Int)) - x163)) (x_intI m_int (x_kd (E := fun (b_ : ((Unit × Unit) × Unit)) => pInt ((x196 + (1 : Int)) - x163)) (x_sub (x_kd (E := fun (b_ : (Unit × Unit)) => pInt (x196 + (1 : Int))) (x_add (x_var (p := pInt x196) 10) (fun _ => x_int (i := 1)))) (fun _ => x_var (p := pInt x163) 4))))) (fun _ => x_kd (E := fun (b_ : Unit) => pInt (a3.length : Int)) (x_lenL (Ee := pInt) m_len (x_var (p := (pL pInt) a3) 2) (fun _ => rdF))))) (fun _ _ => rdF))) (fun _ => a_nil))) (fun _ => rfl) (fun _ => by simp))))) fun (b201 : (((Unit × ((Unit × Unit) × Unit)) × Int) × (((Unit × (((Unit × Unit) × Unit) × Unit)) × Int) × Unit))) x200 => s_T (T := (if (!x160) = true then (M_l_next (s179.2.2) (a3.length : Int)).bind fun r211 => (atI a3 (r211.1)).bind fun x212 => (M_l_next (r211.2) (a3.length : Int)).bind fun r213 => (atI a3 (r213.1)).bind fun x214 => (some ([x212, x214] : List Int)).bind fun x215 => some (x215, r213.2) else some (x200, s179.2.2)).bind fun s203 => (atI (s203.1) (0 : Int)).bind fun x204 => grd ((s179.2.1).length < sizeLine) ((M_l_next (s203.2) (12 : Int)).bind fun r206 => (if (decide (s168 ≤ (r206.1))) = true then (atI (s203.1) (1 : Int)).bind fun x209 => grd ((s179.1).length < sizeLine) (some ((dput (s179.1) x180 x209), r206.2)) else some (s179.1, r206.2)).bind fun s208 => some (s208.1, (dput (s179.2.1) x180 x204), s208.2))) (s_ifN (C := fun s_ : (List Int) × (List Int) => ([some (pV v1), some ((pL pStr) a2), some ((pL pInt) a3), some (pBl x160), some (pInt x163), some (pInt s168), some (pV v172), some (pV v176), some (pStr x180), none, some (pInt x196), some ((pL pInt) s_.1)], [⟨G175, v176, (oM (κ := Str) pInt) s179.1, false⟩, ⟨G171, v172, (oM (κ := Str) pInt) s179.2.1, false⟩, ⟨G1, v1, (oL pInt) s_.2, true⟩])) (t_kd (c := fun (b_ : Unit) => (!x160)) (t_not (t_kd (c := fun (b_ : Unit) => x160) (t_val (x_var (p := pBl x160) 3))))) (fun (b202 : Unit) => s_T (T := (M_l_next (s179.2.2) (a3.length : Int)).bind fun r211 => (atI a3 (r211.1)).bind fun x212 => (M_l_next (r211.2) (a3.length : Int)).bind fun r213 => (atI a3 (r213.1)).bind fun x214 => (some ([x212, x214] : List Int)).bind fun x215 => some (x215, r213.2)) (s_let (i := 11) (pL pInt) sc_l_two.nd (x_kd (E := fun (b_ : (((Unit × ((Unit × Unit) × (Int × (List Int)))) × Int) × (((Unit × ((Unit × Unit) × (Int × (List Int)))) × Int) × Unit))) => (pL pInt) ([b_.1.2, b_.2.1.2])) (x_frz (o_kd (E := fun (b_ : (((Unit × ((Unit × Unit) × (Int × (List Int)))) × Int) × (((Unit × ((Unit × Unit) × (Int × (List Int)))) × Int) × Unit))) => (oL pInt) ([b_.1.2, b_.2.1.2])) (x_disp pInt (fun _ => [_, _]) (a_cons (x_kd (E := fun (b_ : ((Unit × ((Unit × Unit) × (Int × (List Int)))) × Int)) => pInt b_.2) (x_ixL (Ee := pInt) (x_var (p := (pL pInt) a3) 2) (fun _ => x_kd (E := fun (b_ : ((Unit × Unit) × (Int × (List Int)))) => pInt b_.2.1) (x_OF_f (kk := 1) (E1 := (oL pInt)) (E2 := pInt) (s1 := fun (_ : Unit) (_ : Unit) => s179.2.2) (G1 := G1) (v1 := v1) k_l_next (hr.mono (by decide)) g_l_next F_l_next.kp b_l_next 2 (x_var (p := pV v1) 0) (fun _ => x_kd (E := fun (b_ : Unit) => pInt (a3.length : Int)) (x_lenL (Ee := pInt) m_len (x_var (p := (pL pInt) a3) 2) (fun _ => rdF))) (fun _ _ => rfl) (hw_of 2))) (fun _ _ => rdF))) (fun _ => a_cons (x_kd (E := fun (b_ : ((Unit × ((Unit × Unit) × (Int × (List Int)))) × Int)) => pInt b_.2) (x_ixL (Ee := pInt) (x_var (p := (pL pInt) a3) 2) (fun _ => x_kd (E := fun (b_ : ((Unit × Unit) × (Int × (List Int)))) => pInt b_.2.1) (x_OF_f (kk := 1) (E1 := (oL pInt)) (E2 := pInt) (G1 := G1) (v1 := v1) k_l_next (hr.mono (by decide)) g_l_next F_l_next.kp b_l_next 2 (x_var (p := pV v1) 0) (fun _ => x_kd (E := fun (b_ : Unit) => pInt (a3.length : Int)) (x_lenL (Ee := pInt) m_len (x_var (p := (pL pInt) a3) 2) (fun _ => rdF))) (fun _ _ => rfl) (hw_of 2))) (fun _ _ => rdF))) (fun _ => a_nil))) (fun _ => rfl) (fun _ => by simp))))) fun (b216 : (((Unit × ((Unit × Unit) × (Int × (List Int)))) × Int) × (((Unit × ((Unit × Unit) × (Int × (List Int)))) × Int) × Unit))) x215 => s_end (x215, b216.2.1.1.2.2.2) rfl ⟨rfl, rfl, rfl, rfl, rfl, rfl, rfl, rfl, rfl, rfl, rfl, trivial⟩ (List.Sublist.refl _))) (fun (b202 : Unit) => s_end (x200, s179.2.2) rfl ⟨rfl, rfl, rfl, rfl, rfl, rfl, rfl, rfl, rfl, rfl, rfl, trivial⟩ (List.Sublist.refl _)) fun (b202 : Unit) s203 => s_T (T := (atI (s203.1) (0 : Int)).bind fun x204 => grd ((s179.2.1).length < sizeLine) ((M_l_next (s203.2) (12 : Int)).bind fun r206 => (if (decide (s168 ≤ (r206.1))) = true then (atI (s203.1) (1 : Int)).bind fun x209 => grd ((s179.1).length < sizeLine) (some ((dput (s179.1) x180 x209), r206.2)) else some (s179.1, r206.2)).bind fun s208 => some (s208.1, (dput (s179.2.1) x180 x204), s208.2))) (s_dput (κ := Str) (Ee := pInt) 1 hr.units (x_kd (E := fun (b_ : ((Unit × Unit) × Int)) => pInt b_.2) (x_ixL (Ee := pInt) (x_var (p := (pL pInt) s203.1) 11) (fun _ => x_int (i := 0)) (fun _ _ => rdF))) (fun _ => x_var (p := pV v172) 6) (fun _ _ => x_var (p := pStr x180) 8) (fun _ _ _ => rfl) fun (b205 : ((((Unit × Unit) × Int) × Unit) × Unit)) => s_T (T := (M_l_next (s203.2) (12 : Int)).bind fun r206 => (if (decide (s168 ≤ (r206.1))) = true then (atI (s203.1) (1 : Int)).bind fun x209 => grd ((s179.1).length < sizeLine) (some ((dput (s179.1) x180 x209), r206.2)) else some (s179.1, r206.2)).bind fun s208 => some (s208.1, (dput (s179.2.1) x180 b205.1.1.2), s208.2)) (s_ifN (C := fun s_ : (List (Str × Int)) × (List Int) => ([some (pV v1), some ((pL pStr) a2), some ((pL pInt) a3), some (pBl x160), some (pInt x163), some (pInt s168), some (pV v172), some (pV v176), some (pStr x180), none, some (pInt x196), some ((pL pInt) s203.1)], [⟨G175, v176, (oM (κ := Str) pInt) s_.1, false⟩, ⟨G171, v172, (oM (κ := Str) pInt) (dput (s179.2.1) x180 b205.1.1.2), false⟩, ⟨G1, v1, (oL pInt) s_.2, true⟩])) (t_kd (c := fun (b_ : (((Unit × Unit) × (Int × (List Int))) × Unit)) => (decide (s168 ≤ (b_.1.2.1)))) (t_ge (x_kd (E := fun (b_ : ((Unit × Unit) × (Int × (List Int)))) => pInt b_.2.1) (x_OF_f (kk := 1) (E1 := (oL pInt)) (E2 := pInt) (s1 := fun (_ : Unit) (_ : Unit) => s203.2) (G1 := G1) (v1 := v1) k_l_next (hr.mono (by decide)) g_l_next F_l_next.kp b_l_next 2 (x_var (p := pV v1) 0) (fun _ => x_int (i := 12)) (fun _ _ => rfl) (hw_of 2))) (fun _ => x_var (p := pInt s168) 5))) (fun (b207 : (((Unit × Unit) × (Int × (List Int))) × Unit)) => s_T (T := (atI (s203.1) (1 : Int)).bind fun x209 => grd ((s179.1).length < sizeLine) (some ((dput (s179.1) x180 x209), b207.1.2.2))) (s_dput (κ := Str) (Ee := pInt) 0 hr.units (x_kd (E := fun (b_ : ((Unit × Unit) × Int)) => pInt b_.2) (x_ixL (Ee := pInt) (x_var (p := (pL pInt) s203.1) 11) (fun _ => x_int (i := 1)) (fun _ _ => rdF))) (fun _ => x_var (p := pV v176) 7) (fun _ _ => x_var (p := pStr x180) 8) (fun _ _ _ => rfl) fun (b210 : ((((Unit × Unit) × Int) × Unit) × Unit)) => s_end ((dput (s179.1) x180 b210.1.1.2), b207.1.2.2) rfl ⟨rfl, rfl, rfl, rfl, rfl, rfl, rfl, rfl, rfl, rfl, rfl, trivial⟩ (List.Sublist.refl _))) (fun (b207 : (((Unit × Unit) × (Int × (List Int))) × Unit)) => s_end (s179.1, b207.1.2.2) rfl ⟨rfl, rfl, rfl, rfl, rfl, rfl, rfl, rfl, rfl, rfl, rfl, trivial⟩ (List.Sublist.refl _)) fun (b207 : (((Unit × Unit) × (Int × (List Int))) × Unit)) s208 => s_end (s208.1, (dput (s179.2.1) x180 b205.1.1.2), s208.2) rfl ⟨rfl, rfl, rfl, rfl, rfl, rfl, rfl, rfl, trivial⟩ (List.Sublist.refl _))))))) fun b178 s181 => s_T (T := (some (([] : List (Str × Int)) : List (Str × Int))).bind fun x182 => (M_l_shuffled (s181.2.2) a2).bind fun r186 => (forS (r186.1) (x182 : (List (Str × Int))) fun x189 s188 => (if (dhas (s181.1) x189) = true then (dget (s181.1) x189).bind fun x193 => grd (s188.length < sizeLine) (some (dput s188 x189 x193)) else some s188).bind fun s192 => some s192).bind fun s190 => some ([s181.2.1, s190], r186.2)) (s_letO (i := 9) (oM (κ := Str) pInt) sc_l_two.nd (o_kd (E := fun (b_ : Unit) => (oM (κ := Str) pInt) ([] : List (Str × Int))) (x_dict0 (κ := Str) pInt)) fun (b183 : Unit) x182 v185 G184 => s_T (T := (M_l_shuffled (s181.2.2) a2).bind fun r186 => (forS (r186.1) (x182 : (List (Str × Int))) fun x189 s188 => (if (dhas (s181.1) x189) = true then (dget (s181.1) x189).bind fun x193 => grd (s188.length < sizeLine) (some (dput s188 x189 x193)) else some s188).bind fun s192 => some s192).bind fun s190 => some ([s181.2.1, s190], r186.2)) (s_forS PassesOwn.never (fun (b_ : ((Unit × Unit) × ((List Str) × (List Int)))) (s_ : (List (Str × Int))) => ([some (pV v1), some ((pL pStr) a2), some ((pL pInt) a3), some (pBl x160), some (pInt x163), some (pInt s168), some (pV v172), some (pV v176), none, some (pV v185), none, none], [⟨G184, v185, (oM (κ := Str) pInt) s_, false⟩, ⟨G175, v176, (oM (κ := Str) pInt) s181.1, false⟩, ⟨G171, v172, (oM (κ := Str) pInt) s181.2.1, false⟩, ⟨G1, v1, (oL pInt) b_.2.2, true⟩])) (fun (b_ : ((Unit × Unit) × ((List Str) × (List Int)))) => x182) (i_list (x_kd (E := fun (b_ : ((Unit × Unit) × ((List Str) × (List Int)))) => (pL pStr) b_.2.1) (x_frz (o_kd (E := fun (b_ : ((Unit × Unit) × ((List Str) × (List Int)))) => (oL pStr) b_.2.1) (x_OF_o (kk := 2) (E1 := (oL pInt)) (E2 := (pL pStr)) (s1 := fun (_ : Unit) (_ : Unit) => s181.2.2) (G1 := G1) (v1 := v1) k_l_shuffled (hr.mono (by decide)) g_l_shuffled F_l_shuffled.kp b_l_shuffled 3 (x_var (p := pV v1) 0) (fun _ => x_var (p := (pL pStr) a2) 1) (fun _ _ => rfl) (hw_of 3)))))) (pg_name (i := 8) sc_l_two.nd rfl (by first | exact .inl rfl | exact .inr rfl)) (tg_name 8) (fun _ => ⟨rfl, rfl, rfl, rfl, rfl, rfl, rfl, rfl, rfl, trivial⟩) (fun _ => List.Sublist.refl _) (fun b187 x189 s188 => s_T (T := (if (dhas (s181.1) x189) = true then (dget (s181.1) x189).bind fun x193 => grd (s188.length < sizeLine) (some (dput s188 x189 x193)) else some s188).bind fun s192 => some s192) (s_ifN (C := fun s_ : (List (Str × Int)) => ([some (pV v1), some ((pL pStr) a2), some ((pL pInt) a3), some (pBl x160), some (pInt x163), some (pInt s168), some (pV v172), some (pV v176), some (pStr x189), some (pV v185), none, none], [⟨G184, v185, (oM (κ := Str) pInt) s_, false⟩, ⟨G175, v176, (oM (κ := Str) pInt) s181.1, false⟩, ⟨G171, v172, (oM (κ := Str) pInt) s181.2.1, false⟩, ⟨G1, v1, (oL pInt) b187.2.2, true⟩])) (t_kd (c := fun (b_ : (Unit × Unit)) => (dhas (s181.1) x189)) (t_din (κ := Str) (Ee := pInt) hr.units (x_var (p := pStr x189) 8) (fun _ => x_var (p := pV v176) 7) (fun _ _ => rdMO 1))) (fun (b191 : (Unit × Unit)) => s_T (T := (dget (s181.1) x189).bind fun x193 => grd (s188.length < sizeLine) (some (dput s188 x189 x193))) (s_dput (κ := Str) (Ee := pInt) 0 hr.units (x_kd (E := fun (b_ : ((Unit × Unit) × Int)) => pInt b_.2) (x_dget (κ := Str) (Ee := pInt) hr.units (x_var (p := pV v176) 7) (fun _ => x_var (p := pStr x189) 8) (fun _ _ => rdMO 1))) (fun _ => x_var (p := pV v185) 9) (fun _ _ => x_var (p := pStr x189) 8) (fun _ _ _ => rfl) fun (b194 : ((((Unit × Unit) × Int) × Unit) × Unit)) => s_end (dput s188 x189 b194.1.1.2) rfl ⟨rfl, rfl, rfl, rfl, rfl, rfl, rfl, rfl, rfl, rfl, trivial⟩ (List.Sublist.refl _))) (fun (b191 : (Unit × Unit)) => s_end s188 rfl ⟨rfl, rfl, rfl, rfl, rfl, rfl, rfl, rfl, rfl, rfl, trivial⟩ (List.Sublist.refl _)) fun (b191 : (Unit × Unit)) s192 => s_end s192 rfl ⟨rfl, rfl, rfl, rfl, rfl, rfl, rfl, rfl, rfl, trivial⟩ (List.Sublist.refl _))) fun b187 s190 => s_T (T := some ([s181.2.1, s190], b187.2.2)) (s_frz (i := 6) (c := ⟨G171, v172, (oM (κ := Str) pInt) s181.2.1, false⟩) 2 (s_frz (i := 9) (c := ⟨G184, v185, (oM (κ := Str) pInt) s190, false⟩) 0 (s_retO (P := (fun (r : (List (List (Str × Int))) × (List Int)) => [⟨G1, v1, (oL pInt) r.2, true⟩])) (Ro := (fun (r : (List (List (Str × Int))) × (List Int)) => (oL (pM (κ := Str) pInt)) r.1)) (ι := id) (rv := fun (b : (Unit × (Unit × Unit))) => ([s181.2.1, s190], b187.2.2)) (fun _ _ _ h => h) (o_kd (o_kd (E := fun (b_ : (Unit × (Unit × Unit))) => (oL (pM (κ := Str) pInt)) ([s181.2.1, s190])) (x_disp (pM (κ := Str) pInt) (fun _ => [_, _]) (a_cons (x_var (p := (pM (κ := Str) pInt) s181.2.1) 6) (fun _ => a_cons (x_var (p := (pM (κ := Str) pInt) s190) 9) (fun _ => a_nil))) (fun _ => rfl) (fun _ => by simp)))) (fun _ => .cons _ (.cons₂ _ (.slnil)))))))))))))))) (by unfold M_l_two; rfl)
end
end My
end
section
set_option Elab.async false
set_option linter.all false
set_option maxRecDepth 100000
set_option maxHeartbeats 4000000
set_option pp.maxSteps 200
namespace My
open PySem PySem.Spec PyProof.Rows L2 L3
section
variable {P : Program} {w : World} {K : PySem.W.Frag} {mg : Str → Option Value} {base : Heap}
theorem sc_l_same_values : FnScope ["_law_actual", "_law_expected", "_law_found", "_law_name"] ["_law_actual", "_law_expected"] (defScope (top 14)) := ⟨rfl, rfl, rfl, by decide +kernel, rfl, by decide +kernel, by decide +kernel⟩
theorem ok_l_same_values {f : Addr} {fd : FuncData} (C : Ev K mg) (FD : FnP K "_law_same_values" (top 14) f fd)   : FnOk P w K mg base CX0 2 f fd ["_law_actual", "_law_expected"] (Sp_FF_f (pM (κ := Str) pInt) (pM (κ := Str) pInt) M_l_same_values pBl) := by
  have m_all := C.m_all
  have m_dict := C.m_dict
  have m_isinstance := C.m_isinstance
  have m_len := C.m_len
  obtain ⟨f_l_is_integer, fd_l_is_integer, F_l_is_integer, g_l_is_integer⟩ := C.f_l_is_integer
  have k_l_is_integer := ok_l_is_integer (P := P) (w := w) (base := base) C F_l_is_integer
  have b_l_is_integer : Binds K fd_l_is_integer ["_law_actual"] [] := F_l_is_integer.bindsN fun _ _ _ _ _ _ us hl => match us, hl with | [_], _ => rfl
  refine fn_FF_f FD sc_l_same_values rfl fun cdv A outer s H E hr  a1 a2 => ?_
  exact s_is (s_T (T := if ((!true) || (!decide ((a1.length : Int) = (a2.length : Int)))) = true then some false else (compM (a2.map Prod.fst) () (fun x221 s227 => ((if (dhas a1 x221) = true then (dget a1 x221).bind fun x231 => (M_l_is_integer x231).bind fun r232 => some (r232, ()) else some (false, ()))).bind fun c233 => if c233.1 = true then some (some x221, ()) else some (none, ()))).bind fun r234 => (some (r234.1 : List Str)).bind fun x235 => ((if (decide ((x235.length : Int) = (a2.length : Int))) = true then (compM x235 () (fun x249 s252 => if true = true then (dget a1 x249).bind fun x254 => (dget a2 x249).bind fun x255 => some (some (decide (x254 = x255)), ()) else some (none, ()))).bind fun r256 => some (((r256.1).all id), ()) else some (false, ()))).bind fun c257 => some (c257.1)) (s_ifT (ins_F _) (t_kd (c := fun (b_ : Unit) => ((!true) || (!decide ((a1.length : Int) = (a2.length : Int))))) (PW.pt (w_or (t_totV (!true) () (fun _ => rfl) (by exact (t_kd (c := fun (b_ : Unit) => (!true)) (t_not (t_kd (c := fun (b_ : Unit) => true) (t_val (x_kd (E := fun (b_ : Unit) => pBl true) (x_isi (cn := "dict") (fun _ => "dict") (fun _ => true) m_isinstance m_dict (y_var (p := (pM (κ := Str) pInt) a1) 0) (fun _ => tyM) (fun _ => by decide +kernel) (by decide +kernel))))))))) (w_or1 (t_totV (!decide ((a1.length : Int) = (a2.length : Int))) ((), ()) (fun _ => rfl) (by exact (t_kd (c := fun (b_ : (Unit × Unit)) => (!decide ((a1.length : Int) = (a2.length : Int)))) (t_neI (x_kd (E := fun (b_ : Unit) => pInt (a1.length : Int)) (x_lenM (κ := Str) (Ee := pInt) m_len (y_var (p := (pM (κ := Str) pInt) a1) 0) (fun _ => rdMF))) (fun _ => x_kd (E := fun (b_ : Unit) => pInt (a2.length : Int)) (x_lenM (κ := Str) (Ee := pInt) m_len (y_var (p := (pM (κ := Str) pInt) a2) 1) (fun _ => rdMF))))))))))) (fun (b219 : Unit) => s_T (T := some false) (s_ret (P := (fun _ => [])) (Rp := pBl) (ι := id) (rv := fun (b : Unit) => false) (fun _ _ _ h => h) x_bl (fun _ => List.Sublist.refl _))) fun (b219 : Unit) => s_T (T := (compM (a2.map Prod.fst) () (fun x221 s227 => ((if (dhas a1 x221) = true then (dget a1 x221).bind fun x231 => (M_l_is_integer x231).bind fun r232 => some (r232, ()) else some (false, ()))).bind fun c233 => if c233.1 = true then some (some x221, ()) else some (none, ()))).bind fun r234 => (some (r234.1 : List Str)).bind fun x235 => ((if (decide ((x235.length : Int) = (a2.length : Int))) = true then (compM x235 () (fun x249 s252 => if true = true then (dget a1 x249).bind fun x254 => (dget a2 x249).bind fun x255 => some (some (decide (x254 = x255)), ()) else some (none, ()))).bind fun r256 => some (((r256.1).all id), ()) else some (false, ()))).bind fun c257 => some (c257.1)) (s_letOA (i := 2) (oL pStr) (a_lc (i := 2) (own := [("_law_name", 3)]) (C := fun (b_ : Unit) (s_ : Unit) => []) (s0 := fun (b_ : Unit) => ()) (s2 := fun (b_ : Unit) (x_ : Str) (s_ : Unit) (c_ : ((Unit × Unit) × (Bool × Unit))) => ()) (s3 := fun (b_ : Unit) (x_ : Str) (s_ : Unit) (c_ : ((Unit × Unit) × (Bool × Unit))) (d_ : Unit) => ()) (Ex := pStr) (Ee := pStr) (δ := Str) (y := fun (b_ : Unit) (x_ : Str) (s_ : Unit) (c_ : ((Unit × Unit) × (Bool × Unit))) (d_ : Unit) => x_) (T2 := fun (b_ : Unit) (x_ : Str) (s_ : Unit) (c_ : ((Unit × Unit) × (Bool × Unit))) => some (some x_, ())) (c := fun (b_ : Unit) (x_ : Str) (s_ : Unit) (c_ : ((Unit × Unit) × (Bool × Unit))) => c_.2.1) (f := fun (b_ : Unit) (x_ : Str) (s_ : Unit) => ((if (dhas a1 x_) = true then (dget a1 x_).bind fun x231 => (M_l_is_integer x231).bind fun r232 => some (r232, ()) else some (false, ()))).bind fun c233 => if c233.1 = true then some (some x_, ()) else some (none, ())) sc_l_same_values.nd (i_mkeys (κ := Str) (x_var (p := (pM (κ := Str) pInt) a2) 1)) (blkOk_by (own := [("_law_name", 3)]) (N := ["_law_actual", "_law_expected", "_law_found", "_law_name"]) (sc := defScope (top 14)) (by decide +kernel)) (fun _ _ _ _ _ => pg_name (i := 3) sc_l_same_values.nd rfl (by first | exact .inl rfl | exact .inr rfl)) (tw_name 3) (fun _ => rfl) (by exact fun q228 _ _ _ _ _ b220 x221 s227 => t_out (pts_one (t_kd (c := fun (b_ : ((Unit × Unit) × (Bool × Unit))) => b_.2.1) (PW.pt (w_andM (ΔS := fun (b_ : (Unit × Unit)) (s_ : Unit) => [] ++ [q228]) (s1 := fun (b_ : (Unit × Unit)) => ()) (s2 := fun (b_ : (Unit × Unit)) (c_ : (((Unit × Unit) × Int) × Bool)) => ()) (t_kd (c := fun (b_ : (Unit × Unit)) => (dhas a1 x221)) (t_din (κ := Str) (Ee := pInt) hr.units (x_var (p := pStr x221) 3) (fun _ => x_var (p := (pM (κ := Str) pInt) a1) 0) (fun _ _ => rdMF))) (fun _ => w_and1 (t_kd (c := fun (b_ : (((Unit × Unit) × Int) × Bool)) => b_.2) (t_val (x_kd (E := fun (b_ : (((Unit × Unit) × Int) × Bool)) => pBl b_.2) (x_F_f (kk := 1) (E1 := pInt) k_l_is_integer (hr.mono (by decide)) g_l_is_integer F_l_is_integer.kp b_l_is_integer (x_kd (E := fun (b_ : ((Unit × Unit) × Int)) => pInt b_.2) (x_dget (κ := Str) (Ee := pInt) hr.units (x_var (p := (pM (κ := Str) pInt) a1) 0) (fun _ => x_var (p := pStr x221) 3) (fun _ _ => rdMF)))))))) (fun _ => rfl) (fun _ _ => rfl)))))) (by exact fun q228 _ _ _ _ _ b220 x221 s227 _ => x_out (x_var (p := pStr x221) 3)) (sw_true rfl rfl rfl (by decide +kernel))) fun (b236 : (Unit × ((List Str) × Unit))) x235 v238 G237 => s_frz (i := 2) (c := ⟨G237, v238, (oL pStr) x235, false⟩) 0 (s_T (T := ((if (decide ((x235.length : Int) = (a2.length : Int))) = true then (compM x235 () (fun x249 s252 => if true = true then (dget a1 x249).bind fun x254 => (dget a2 x249).bind fun x255 => some (some (decide (x254 = x255)), ()) else some (none, ()))).bind fun r256 => some (((r256.1).all id), ()) else some (false, ()))).bind fun c257 => some (c257.1)) (s_ret (P := (fun _ => [])) (Rp := pBl) (ι := id) (rv := fun (b : ((Unit × Unit) × (Bool × Unit))) => b.2.1) (fun _ _ _ h => h) (x_kd (x_kd (E := fun (b_ : ((Unit × Unit) × (Bool × Unit))) => pBl b_.2.1) (v_andM (ΔS := fun (b_ : (Unit × Unit)) (s_ : Unit) => []) (s1 := fun (b_ : (Unit × Unit)) => ()) (s2 := fun (b_ : (Unit × Unit)) (c_ : (Unit × ((List Bool) × Unit))) => ()) (x_kd (E := fun (b_ : (Unit × Unit)) => pBl (decide ((x235.length : Int) = (a2.length : Int)))) (x_eqI (x_kd (E := fun (b_ : Unit) => pInt (x235.length : Int)) (x_lenL (Ee := pStr) m_len (x_var (p := (pL pStr) x235) 2) (fun _ => rdF))) (fun _ => x_kd (E := fun (b_ : Unit) => pInt (a2.length : Int)) (x_lenM (κ := Str) (Ee := pInt) m_len (x_var (p := (pM (κ := Str) pInt) a2) 1) (fun _ => rdMF))))) (fun _ => v_one (x_kd (E := fun (b_ : (Unit × ((List Bool) × Unit))) => pBl ((b_.2.1).all id)) (x_all m_all (x_kd (E := fun (b_ : (Unit × ((List Bool) × Unit))) => (pL pBl) b_.2.1) (x_frz (o_kd (E := fun (b_ : (Unit × ((List Bool) × Unit))) => (oL pBl) b_.2.1) (x_lc (own := [("_law_name", 3)]) (C := fun (b_ : Unit) (s_ : Unit) => []) (s0 := fun (b_ : Unit) => ()) (s2 := fun (b_ : Unit) (x_ : Str) (s_ : Unit) (c_ : Unit) => ()) (s3 := fun (b_ : Unit) (x_ : Str) (s_ : Unit) (c_ : Unit) (d_ : (((Unit × Unit) × Int) × ((Unit × Unit) × Int))) => ()) (Ex := pStr) (Ee := pBl) (δ := Bool) (y := fun (b_ : Unit) (x_ : Str) (s_ : Unit) (c_ : Unit) (d_ : (((Unit × Unit) × Int) × ((Unit × Unit) × Int))) => (decide (d_.1.2 = d_.2.2))) (T2 := fun (b_ : Unit) (x_ : Str) (s_ : Unit) (c_ : Unit) => (dget a1 x_).bind fun x254 => (dget a2 x_).bind fun x255 => some (some (decide (x254 = x255)), ())) (c := fun (b_ : Unit) (x_ : Str) (s_ : Unit) (c_ : Unit) => true) (f := fun (b_ : Unit) (x_ : Str) (s_ : Unit) => if true = true then (dget a1 x_).bind fun x254 => (dget a2 x_).bind fun x255 => some (some (decide (x254 = x255)), ()) else some (none, ())) sc_l_same_values.nd (i_list (x_var (p := (pL pStr) x235) 2)) (blkOk_by (own := [("_law_name", 3)]) (N := ["_law_actual", "_law_expected", "_law_found", "_law_name"]) (sc := defScope (top 14)) (by decide +kernel)) (fun _ _ _ _ _ => pg_name (i := 3) sc_l_same_values.nd rfl (by first | exact .inl rfl | exact .inr rfl)) (tw_name 3) (fun _ => rfl) (by exact fun q253 _ _ _ _ _ b248 x249 s252 => pts_T) (by exact fun q253 _ _ _ _ _ b248 x249 s252 _ => x_out (x_kd (E := fun (b_ : (((Unit × Unit) × Int) × ((Unit × Unit) × Int))) => pBl (decide (b_.1.2 = b_.2.2))) (x_eqI (x_kd (E := fun (b_ : ((Unit × Unit) × Int)) => pInt b_.2) (x_dget (κ := Str) (Ee := pInt) hr.units (x_var (p := (pM (κ := Str) pInt) a1) 0) (fun _ => x_var (p := pStr x249) 3) (fun _ _ => rdMF))) (fun _ => x_kd (E := fun (b_ : ((Unit × Unit) × Int)) => pInt b_.2) (x_dget (κ := Str) (Ee := pInt) hr.units (x_var (p := (pM (κ := Str) pInt) a2) 1) (fun _ => x_var (p := pStr x249) 3) (fun _ _ => rdMF)))))))))) (fun _ => rdF)))) (fun _ => rfl) (fun _ _ => rfl)))) (fun _ => List.Sublist.refl _)))))) (by unfold M_l_same_values; rfl)
end
end My
end
section
set_option Elab.async false
set_option linter.all false
set_option maxRecDepth 100000
set_option maxHeartbeats 4000000
set_option pp.maxSteps 200
namespace My
open PySem PySem.Spec PyProof.Rows L2 L3
section
variable {P : Program} {w : World} {K : PySem.W.Frag} {mg : Str → Option Value} {base : Heap}
theorem sc_l_is_merged : FnScope ["_law_told", "_law_whole", "_law_some", "_law_name", "_law_taken", "_law_before", "_law_wanted", "_law_value"] ["_law_told", "_law_whole", "_law_some"] (defScope (top 15)) := ⟨rfl, rfl, rfl, by decide +kernel, rfl, by decide +kernel, by decide +kernel⟩
theorem ok_l_is_merged {f : Addr} {fd : FuncData} (C : Ev K mg) (FD : FnP K "_law_is_merged" (top 15) f fd)   : FnOk P w K mg base CX0 2 f fd ["_law_told", "_law_whole", "_law_some"] (Sp_FFF_f (pM (κ := Str) pInt) (pM (κ := Str) pInt) (pM (κ := Str) pInt) M_l_is_merged pBl) := by
  have m_dict := C.m_dict
  have m_isinstance := C.m_isinstance
  have m_len := C.m_len
  have m_max := C.m_max
  obtain ⟨f_l_is_integer, fd_l_is_integer, F_l_is_integer, g_l_is_integer⟩ := C.f_l_is_integer
  have k_l_is_integer := ok_l_is_integer (P := P) (w := w) (base := base) C F_l_is_integer
  have b_l_is_integer : Binds K fd_l_is_integer ["_law_actual"] [] := F_l_is_integer.bindsN fun _ _ _ _ _ _ us hl => match us, hl with | [_], _ => rfl
  refine fn_FFF_f FD sc_l_is_merged rfl fun cdv A outer s H E hr  a1 a2 a3 => ?_
  exact s_is (s_T (T := if ((!true) || (!decide ((a1.length : Int) = (a2.length : Int)))) = true then some false else (forL (a2.map Prod.fst) (() : Unit) fun x261 s260 => ((if (!dhas a1 x261) = true then some (true, ()) else (dget a1 x261).bind fun x304 => (M_l_is_integer x304).bind fun r305 => some ((!r305), ()))).bind fun c306 => if c306.1 = true then inB (some (Tm.rt false)) else (dget a1 x261).bind fun x308 => (dget a2 x261).bind fun x309 => ((if (!decide (x308 = x309)) = true then ((if (!dhas a3 x261) = true then some (true, ()) else (dget a1 x261).bind fun x317 => (dget a3 x261).bind fun x318 => some ((!decide (x317 = x318)), ()))).bind fun c319 => some (c319.1, ()) else some (false, ()))).bind fun c320 => if c320.1 = true then inB (some (Tm.rt false)) else some (Bo.nx ())).bind (boK (fun s262 => (compM (a2.map Prod.fst) () (fun x264 s266 => if true = true then (dget a1 x264).bind fun x268 => some (some x268, ()) else some (none, ()))).bind fun r269 => (some (r269.1 : List Int)).bind fun x270 => (compM (a2.map Prod.fst) () (fun x275 s277 => if true = true then (dget a2 x275).bind fun x279 => some (some x279, ()) else some (none, ()))).bind fun r280 => (some (r280.1 : List Int)).bind fun x281 => (compM (a3.map Prod.fst) () (fun x286 s288 => if true = true then (dget a3 x286).bind fun x290 => some (some x290, ()) else some (none, ()))).bind fun r291 => (some (r291.1 : List Int)).bind fun x292 => grd (x281.length + x292.length ≤ sizeLine) ((forL (x281 ++ x292) (() : Unit) fun x298 s297 => if (decide (((x270.count x298 : Nat) : Int) < ((x292.count x298 : Nat) : Int))) = true then inB (some (Tm.rt false)) else if (decide ((max ((x281.count x298 : Nat) : Int) ((x292.count x298 : Nat) : Int)) < ((x270.count x298 : Nat) : Int))) = true then inB (some (Tm.rt false)) else some (Bo.nx ())).bind (boK (fun s299 => some true) id))) id)) (s_ifT (ins_F _) (t_kd (c := fun (b_ : Unit) => ((!true) || (!decide ((a1.length : Int) = (a2.length : Int))))) (PW.pt (w_or (t_totV (!true) () (fun _ => rfl) (by exact (t_kd (c := fun (b_ : Unit) => (!true)) (t_not (t_kd (c := fun (b_ : Unit) => true) (t_val (x_kd (E := fun (b_ : Unit) => pBl true) (x_isi (cn := "dict") (fun _ => "dict") (fun _ => true) m_isinstance m_dict (y_var (p := (pM (κ := Str) pInt) a1) 0) (fun _ => tyM) (fun _ => by decide +kernel) (by decide +kernel))))))))) (w_or1 (t_totV (!decide ((a1.length : Int) = (a2.length : Int))) ((), ()) (fun _ => rfl) (by exact (t_kd (c := fun (b_ : (Unit × Unit)) => (!decide ((a1.length : Int) = (a2.length : Int)))) (t_neI (x_kd (E := fun (b_ : Unit) => pInt (a1.length : Int)) (x_lenM (κ := Str) (Ee := pInt) m_len (y_var (p := (pM (κ := Str) pInt) a1) 0) (fun _ => rdMF))) (fun _ => x_kd (E := fun (b_ : Unit) => pInt (a2.length : Int)) (x_lenM (κ := Str) (Ee := pInt) m_len (y_var (p := (pM (κ := Str) pInt) a2) 1) (fun _ => rdMF))))))))))) (fun (b258 : Unit) => s_T (T := some false) (s_ret (P := (fun _ => [])) (Rp := pBl) (ι := id) (rv := fun (b : Unit) => false) (fun _ _ _ h => h) x_bl (fun _ => List.Sublist.refl _))) fun (b258 : Unit) => s_T (T := (forL (a2.map Prod.fst) (() : Unit) fun x261 s260 => ((if (!dhas a1 x261) = true then some (true, ()) else (dget a1 x261).bind fun x304 => (M_l_is_integer x304).bind fun r305 => some ((!r305), ()))).bind fun c306 => if c306.1 = true then inB (some (Tm.rt false)) else (dget a1 x261).bind fun x308 => (dget a2 x261).bind fun x309 => ((if (!decide (x308 = x309)) = true then ((if (!dhas a3 x261) = true then some (true, ()) else (dget a1 x261).bind fun x317 => (dget a3 x261).bind fun x318 => some ((!decide (x317 = x318)), ()))).bind fun c319 => some (c319.1, ()) else some (false, ()))).bind fun c320 => if c320.1 = true then inB (some (Tm.rt false)) else some (Bo.nx ())).bind (boK (fun s262 => (compM (a2.map Prod.fst) () (fun x264 s266 => if true = true then (dget a1 x264).bind fun x268 => some (some x268, ()) else some (none, ()))).bind fun r269 => (some (r269.1 : List Int)).bind fun x270 => (compM (a2.map Prod.fst) () (fun x275 s277 => if true = true then (dget a2 x275).bind fun x279 => some (some x279, ()) else some (none, ()))).bind fun r280 => (some (r280.1 : List Int)).bind fun x281 => (compM (a3.map Prod.fst) () (fun x286 s288 => if true = true then (dget a3 x286).bind fun x290 => some (some x290, ()) else some (none, ()))).bind fun r291 => (some (r291.1 : List Int)).bind fun x292 => grd (x281.length + x292.length ≤ sizeLine) ((forL (x281 ++ x292) (() : Unit) fun x298 s297 => if (decide (((x270.count x298 : Nat) : Int) < ((x292.count x298 : Nat) : Int))) = true then inB (some (Tm.rt false)) else if (decide ((max ((x281.count x298 : Nat) : Int) ((x292.count x298 : Nat) : Int)) < ((x270.count x298 : Nat) : Int))) = true then inB (some (Tm.rt false)) else some (Bo.nx ())).bind (boK (fun s299 => some true) id))) id)) (s_for PassesOwn.never (fun (b_ : Unit) (s_ : Unit) => ([some ((pM (κ := Str) pInt) a1), some ((pM (κ := Str) pInt) a2), some ((pM (κ := Str) pInt) a3), none, none, none, none, none], [])) (fun (b_ : Unit) => ()) (ι := id) (R := (RF ⟨H, []⟩ (fun _ => []) pBl)) (i_mkeys (κ := Str) (x_var (p := (pM (κ := Str) pInt) a2) 1)) (pg_name (i := 3) sc_l_is_merged.nd rfl (by first | exact .inl rfl | exact .inr rfl)) (tg_name 3) (fun _ => ⟨rfl, rfl, rfl, trivial⟩) (fun _ => List.Sublist.refl _) (fun b259 x261 s260 => s_T (T := ((if (!dhas a1 x261) = true then some (true, ()) else (dget a1 x261).bind fun x304 => (M_l_is_integer x304).bind fun r305 => some ((!r305), ()))).bind fun c306 => if c306.1 = true then inB (some (Tm.rt false)) else (dget a1 x261).bind fun x308 => (dget a2 x261).bind fun x309 => ((if (!decide (x308 = x309)) = true then ((if (!dhas a3 x261) = true then some (true, ()) else (dget a1 x261).bind fun x317 => (dget a3 x261).bind fun x318 => some ((!decide (x317 = x318)), ()))).bind fun c319 => some (c319.1, ()) else some (false, ()))).bind fun c320 => if c320.1 = true then inB (some (Tm.rt false)) else some (Bo.nx ())) (s_ifB ins_T (t_kd (c := fun (b_ : ((Unit × Unit) × (Bool × Unit))) => b_.2.1) (PW.pt (w_orM (ΔS := fun (b_ : (Unit × Unit)) (s_ : Unit) => []) (s1 := fun (b_ : (Unit × Unit)) => ()) (s2 := fun (b_ : (Unit × Unit)) (c_ : (((Unit × Unit) × Int) × Bool)) => ()) (t_kd (c := fun (b_ : (Unit × Unit)) => (!dhas a1 x261)) (t_dnin (κ := Str) (Ee := pInt) hr.units (x_var (p := pStr x261) 3) (fun _ => x_var (p := (pM (κ := Str) pInt) a1) 0) (fun _ _ => rdMF))) (fun _ => w_or1 (t_kd (c := fun (b_ : (((Unit × Unit) × Int) × Bool)) => (!b_.2)) (t_not (t_kd (c := fun (b_ : (((Unit × Unit) × Int) × Bool)) => b_.2) (t_val (x_kd (E := fun (b_ : (((Unit × Unit) × Int) × Bool)) => pBl b_.2) (x_F_f (kk := 1) (E1 := pInt) k_l_is_integer (hr.mono (by decide)) g_l_is_integer F_l_is_integer.kp b_l_is_integer (x_kd (E := fun (b_ : ((Unit × Unit) × Int)) => pInt b_.2) (x_dget (κ := Str) (Ee := pInt) hr.units (x_var (p := (pM (κ := Str) pInt) a1) 0) (fun _ => x_var (p := pStr x261) 3) (fun _ _ => rdMF)))))))))) (fun _ => rfl) (fun _ _ => rfl)))) (fun (b307 : ((Unit × Unit) × (Bool × Unit))) => s_T (T := some (Tm.rt false)) (s_ret (P := (fun _ => [])) (Rp := pBl) (ι := Tm.rt) (rv := fun (b : Unit) => false) (fun _ _ _ h => h) x_bl (fun _ => List.Sublist.refl _))) fun (b307 : ((Unit × Unit) × (Bool × Unit))) => s_T (T := (dget a1 x261).bind fun x308 => (dget a2 x261).bind fun x309 => ((if (!decide (x308 = x309)) = true then ((if (!dhas a3 x261) = true then some (true, ()) else (dget a1 x261).bind fun x317 => (dget a3 x261).bind fun x318 => some ((!decide (x317 = x318)), ()))).bind fun c319 => some (c319.1, ()) else some (false, ()))).bind fun c320 => if c320.1 = true then inB (some (Tm.rt false)) else some (Bo.nx ())) (s_ifB ins_T (t_kd (c := fun (b_ : ((((Unit × Unit) × Int) × ((Unit × Unit) × Int)) × (Bool × Unit))) => b_.2.1) (PW.pt (w_andM (ΔS := fun (b_ : (((Unit × Unit) × Int) × ((Unit × Unit) × Int))) (s_ : Unit) => []) (s1 := fun (b_ : (((Unit × Unit) × Int) × ((Unit × Unit) × Int))) => ()) (s2 := fun (b_ : (((Unit × Unit) × Int) × ((Unit × Unit) × Int))) (c_ : ((Unit × Unit) × (Bool × Unit))) => ()) (t_kd (c := fun (b_ : (((Unit × Unit) × Int) × ((Unit × Unit) × Int))) => (!decide (b_.1.2 = b_.2.2))) (t_neI (x_kd (E := fun (b_ : ((Unit × Unit) × Int)) => pInt b_.2) (x_dget (κ := Str) (Ee := pInt) hr.units (x_var (p := (pM (κ := Str) pInt) a1) 0) (fun _ => x_var (p := pStr x261) 3) (fun _ _ => rdMF))) (fun _ => x_kd (E := fun (b_ : ((Unit × Unit) × Int)) => pInt b_.2) (x_dget (κ := Str) (Ee := pInt) hr.units (x_var (p := (pM (κ := Str) pInt) a2) 1) (fun _ => x_var (p := pStr x261) 3) (fun _ _ => rdMF))))) (fun _ => w_and1 (t_kd (c := fun (b_ : ((Unit × Unit) × (Bool × Unit))) => b_.2.1) (PW.pt (w_orM (ΔS := fun (b_ : (Unit × Unit)) (s_ : Unit) => []) (s1 := fun (b_ : (Unit × Unit)) => ()) (s2 := fun (b_ : (Unit × Unit)) (c_ : (((Unit × Unit) × Int) × ((Unit × Unit) × Int))) => ()) (t_kd (c := fun (b_ : (Unit × Unit)) => (!dhas a3 x261)) (t_dnin (κ := Str) (Ee := pInt) hr.units (x_var (p := pStr x261) 3) (fun _ => x_var (p := (pM (κ := Str) pInt) a3) 2) (fun _ _ => rdMF))) (fun _ => w_or1 (t_kd (c := fun (b_ : (((Unit × Unit) × Int) × ((Unit × Unit) × Int))) => (!decide (b_.1.2 = b_.2.2))) (t_neI (x_kd (E := fun (b_ : ((Unit × Unit) × Int)) => pInt b_.2) (x_dget (κ := Str) (Ee := pInt) hr.units (x_var (p := (pM (κ := Str) pInt) a1) 0) (fun _ => x_var (p := pStr x261) 3) (fun _ _ => rdMF))) (fun _ => x_kd (E := fun (b_ : ((Unit × Unit) × Int)) => pInt b_.2) (x_dget (κ := Str) (Ee := pInt) hr.units (x_var (p := (pM (κ := Str) pInt) a3) 2) (fun _ => x_var (p := pStr x261) 3) (fun _ _ => rdMF)))))) (fun _ => rfl) (fun _ _ => rfl))))) (fun _ => rfl) (fun _ _ => rfl)))) (fun (b321 : ((((Unit × Unit) × Int) × ((Unit × Unit) × Int)) × (Bool × Unit))) => s_T (T := some (Tm.rt false)) (s_ret (P := (fun _ => [])) (Rp := pBl) (ι := Tm.rt) (rv := fun (b : Unit) => false) (fun _ _ _ h => h) x_bl (fun _ => List.Sublist.refl _))) fun (b321 : ((((Unit × Unit) × Int) × ((Unit × Unit) × Int)) × (Bool × Unit))) => s_endB () ⟨rfl, rfl, rfl, trivial⟩ (List.Sublist.refl _)))) (fun b259 s262 => s_T (T := (compM (a2.map Prod.fst) () (fun x264 s266 => if true = true then (dget a1 x264).bind fun x268 => some (some x268, ()) else some (none, ()))).bind fun r269 => (some (r269.1 : List Int)).bind fun x270 => (compM (a2.map Prod.fst) () (fun x275 s277 => if true = true then (dget a2 x275).bind fun x279 => some (some x279, ()) else some (none, ()))).bind fun r280 => (some (r280.1 : List Int)).bind fun x281 => (compM (a3.map Prod.fst) () (fun x286 s288 => if true = true then (dget a3 x286).bind fun x290 => some (some x290, ()) else some (none, ()))).bind fun r291 => (some (r291.1 : List Int)).bind fun x292 => grd (x281.length + x292.length ≤ sizeLine) ((forL (x281 ++ x292) (() : Unit) fun x298 s297 => if (decide (((x270.count x298 : Nat) : Int) < ((x292.count x298 : Nat) : Int))) = true then inB (some (Tm.rt false)) else if (decide ((max ((x281.count x298 : Nat) : Int) ((x292.count x298 : Nat) : Int)) < ((x270.count x298 : Nat) : Int))) = true then inB (some (Tm.rt false)) else some (Bo.nx ())).bind (boK (fun s299 => some true) id))) (s_letOA (i := 4) (oL pInt) (a_lc (i := 4) (own := [("_law_name", 3)]) (C := fun (b_ : Unit) (s_ : Unit) => []) (s0 := fun (b_ : Unit) => ()) (s2 := fun (b_ : Unit) (x_ : Str) (s_ : Unit) (c_ : Unit) => ()) (s3 := fun (b_ : Unit) (x_ : Str) (s_ : Unit) (c_ : Unit) (d_ : ((Unit × Unit) × Int)) => ()) (Ex := pStr) (Ee := pInt) (δ := Int) (y := fun (b_ : Unit) (x_ : Str) (s_ : Unit) (c_ : Unit) (d_ : ((Unit × Unit) × Int)) => d_.2) (T2 := fun (b_ : Unit) (x_ : Str) (s_ : Unit) (c_ : Unit) => (dget a1 x_).bind fun x268 => some (some x268, ())) (c := fun (b_ : Unit) (x_ : Str) (s_ : Unit) (c_ : Unit) => true) (f := fun (b_ : Unit) (x_ : Str) (s_ : Unit) => if true = true then (dget a1 x_).bind fun x268 => some (some x268, ()) else some (none, ())) sc_l_is_merged.nd (i_mkeys (κ := Str) (x_var (p := (pM (κ := Str) pInt) a2) 1)) (blkOk_by (own := [("_law_name", 3)]) (N := ["_law_told", "_law_whole", "_law_some", "_law_name", "_law_taken", "_law_before", "_law_wanted", "_law_value"]) (sc := defScope (top 15)) (by decide +kernel)) (fun _ _ _ _ _ => pg_name (i := 3) sc_l_is_merged.nd rfl (by first | exact .inl rfl | exact .inr rfl)) (tw_name 3) (fun _ => rfl) (by exact fun q267 _ _ _ _ _ b263 x264 s266 => pts_T) (by exact fun q267 _ _ _ _ _ b263 x264 s266 _ => x_out (x_kd (E := fun (b_ : ((Unit × Unit) × Int)) => pInt b_.2) (x_dget (κ := Str) (Ee := pInt) hr.units (x_var (p := (pM (κ := Str) pInt) a1) 0) (fun _ => x_var (p := pStr x264) 3) (fun _ _ => rdMF)))) (sw_true rfl rfl rfl (by decide +kernel))) fun (b271 : (Unit × ((List Int) × Unit))) x270 v273 G272 => s_frz (i := 4) (c := ⟨G272, v273, (oL pInt) x270, false⟩) 0 (s_T (T := (compM (a2.map Prod.fst) () (fun x275 s277 => if true = true then (dget a2 x275).bind fun x279 => some (some x279, ()) else some (none, ()))).bind fun r280 => (some (r280.1 : List Int)).bind fun x281 => (compM (a3.map Prod.fst) () (fun x286 s288 => if true = true then (dget a3 x286).bind fun x290 => some (some x290, ()) else some (none, ()))).bind fun r291 => (some (r291.1 : List Int)).bind fun x292 => grd (x281.length + x292.length ≤ sizeLine) ((forL (x281 ++ x292) (() : Unit) fun x298 s297 => if (decide (((x270.count x298 : Nat) : Int) < ((x292.count x298 : Nat) : Int))) = true then inB (some (Tm.rt false)) else if (decide ((max ((x281.count x298 : Nat) : Int) ((x292.count x298 : Nat) : Int)) < ((x270.count x298 : Nat) : Int))) = true then inB (some (Tm.rt false)) else some (Bo.nx ())).bind (boK (fun s299 => some true) id))) (s_letOA (i := 5) (oL pInt) (a_lc (i := 5) (own := [("_law_name", 3)]) (C := fun (b_ : Unit) (s_ : Unit) => []) (s0 := fun (b_ : Unit) => ()) (s2 := fun (b_ : Unit) (x_ : Str) (s_ : Unit) (c_ : Unit) => ()) (s3 := fun (b_ : Unit) (x_ : Str) (s_ : Unit) (c_ : Unit) (d_ : ((Unit × Unit) × Int)) => ()) (Ex := pStr) (Ee := pInt) (δ := Int) (y := fun (b_ : Unit) (x_ : Str) (s_ : Unit) (c_ : Unit) (d_ : ((Unit × Unit) × Int)) => d_.2) (T2 := fun (b_ : Unit) (x_ : Str) (s_ : Unit) (c_ : Unit) => (dget a2 x_).bind fun x279 => some (some x279, ())) (c := fun (b_ : Unit) (x_ : Str) (s_ : Unit) (c_ : Unit) => true) (f := fun (b_ : Unit) (x_ : Str) (s_ : Unit) => if true = true then (dget a2 x_).bind fun x279 => some (some x279, ()) else some (none, ())) sc_l_is_merged.nd (i_mkeys (κ := Str) (x_var (p := (pM (κ := Str) pInt) a2) 1)) (blkOk_by (own := [("_law_name", 3)]) (N := ["_law_told", "_law_whole", "_law_some", "_law_name", "_law_taken", "_law_before", "_law_wanted", "_law_value"]) (sc := defScope (top 15)) (by decide +kernel)) (fun _ _ _ _ _ => pg_name (i := 3) sc_l_is_merged.nd rfl (by first | exact .inl rfl | exact .inr rfl)) (tw_name 3) (fun _ => rfl) (by exact fun q278 _ _ _ _ _ b274 x275 s277 => pts_T) (by exact fun q278 _ _ _ _ _ b274 x275 s277 _ => x_out (x_kd (E := fun (b_ : ((Unit × Unit) × Int)) => pInt b_.2) (x_dget (κ := Str) (Ee := pInt) hr.units (x_var (p := (pM (κ := Str) pInt) a2) 1) (fun _ => x_var (p := pStr x275) 3) (fun _ _ => rdMF)))) (sw_true rfl rfl rfl (by decide +kernel))) fun (b282 : (Unit × ((List Int) × Unit))) x281 v284 G283 => s_frz (i := 5) (c := ⟨G283, v284, (oL pInt) x281, false⟩) 0 (s_T (T := (compM (a3.map Prod.fst) () (fun x286 s288 => if true = true then (dget a3 x286).bind fun x290 => some (some x290, ()) else some (none, ()))).bind fun r291 => (some (r291.1 : List Int)).bind fun x292 => grd (x281.length + x292.length ≤ sizeLine) ((forL (x281 ++ x292) (() : Unit) fun x298 s297 => if (decide (((x270.count x298 : Nat) : Int) < ((x292.count x298 : Nat) : Int))) = true then inB (some (Tm.rt false)) else if (decide ((max ((x281.count x298 : Nat) : Int) ((x292.count x298 : Nat) : Int)) < ((x270.count x298 : Nat) : Int))) = true then inB (some (Tm.rt false)) else some (Bo.nx ())).bind (boK (fun s299 => some true) id))) (s_letOA (i := 6) (oL pInt) (a_lc (i := 6) (own := [("_law_name", 3)]) (C := fun (b_ : Unit) (s_ : Unit) => []) (s0 := fun (b_ : Unit) => ()) (s2 := fun (b_ : Unit) (x_ : Str) (s_ : Unit) (c_ : Unit) => ()) (s3 := fun (b_ : Unit) (x_ : Str) (s_ : Unit) (c_ : Unit) (d_ : ((Unit × Unit) × Int)) => ()) (Ex := pStr) (Ee := pInt) (δ := Int) (y := fun (b_ : Unit) (x_ : Str) (s_ : Unit) (c_ : Unit) (d_ : ((Unit × Unit) × Int)) => d_.2) (T2 := fun (b_ : Unit) (x_ : Str) (s_ : Unit) (c_ : Unit) => (dget a3 x_).bind fun x290 => some (some x290, ())) (c := fun (b_ : Unit) (x_ : Str) (s_ : Unit) (c_ : Unit) => true) (f := fun (b_ : Unit) (x_ : Str) (s_ : Unit) => if true = true then (dget a3 x_).bind fun x290 => some (some x290, ()) else some (none, ())) sc_l_is_merged.nd (i_mkeys (κ := Str) (x_var (p := (pM (κ := Str) pInt) a3) 2)) (blkOk_by (own := [("_law_name", 3)]) (N := ["_law_told", "_law_whole", "_law_some", "_law_name", "_law_taken", "_law_before", "_law_wanted", "_law_value"]) (sc := defScope (top 15)) (by decide +kernel)) (fun _ _ _ _ _ => pg_name (i := 3) sc_l_is_merged.nd rfl (by first | exact .inl rfl | exact .inr rfl)) (tw_name 3) (fun _ => rfl) (by exact fun q289 _ _ _ _ _ b285 x286 s288 => pts_T) (by exact fun q289 _ _ _ _ _ b285 x286 s288 _ => x_out (x_kd (E := fun (b_ : ((Unit × Unit) × Int)) => pInt b_.2) (x_dget (κ := Str) (Ee := pInt) hr.units (x_var (p := (pM (κ := Str) pInt) a3) 2) (fun _ => x_var (p := pStr x286) 3) (fun _ _ => rdMF)))) (sw_true rfl rfl rfl (by decide +kernel))) fun (b293 : (Unit × ((List Int) × Unit))) x292 v295 G294 => s_frz (i := 6) (c := ⟨G294, v295, (oL pInt) x292, false⟩) 0 (s_T (T := grd (x281.length + x292.length ≤ sizeLine) ((forL (x281 ++ x292) (() : Unit) fun x298 s297 => if (decide (((x270.count x298 : Nat) : Int) < ((x292.count x298 : Nat) : Int))) = true then inB (some (Tm.rt false)) else if (decide ((max ((x281.count x298 : Nat) : Int) ((x292.count x298 : Nat) : Int)) < ((x270.count x298 : Nat) : Int))) = true then inB (some (Tm.rt false)) else some (Bo.nx ())).bind (boK (fun s299 => some true) id))) (s_for PassesOwn.never (fun (b_ : (Unit × Unit)) (s_ : Unit) => ([some ((pM (κ := Str) pInt) a1), some ((pM (κ := Str) pInt) a2), some ((pM (κ := Str) pInt) a3), none, some ((pL pInt) x270), some ((pL pInt) x281), some ((pL pInt) x292), none], [])) (fun (b_ : (Unit × Unit)) => ()) (ι := id) (R := (RF ⟨H, []⟩ (fun _ => []) pBl)) (i_list (x_kd (E := fun (b_ : (Unit × Unit)) => (pL pInt) (x281 ++ x292)) (x_frz (o_kd (E := fun (b_ : (Unit × Unit)) => (oL pInt) (x281 ++ x292)) (x_cat (Ee := pInt) (x_var (p := (pL pInt) x281) 5) (fun _ => x_var (p := (pL pInt) x292) 6) (fun _ _ => rdF) (fun _ _ => rdF)))))) (pg_name (i := 7) sc_l_is_merged.nd rfl (by first | exact .inl rfl | exact .inr rfl)) (tg_name 7) (fun _ => ⟨rfl, rfl, rfl, rfl, rfl, rfl, trivial⟩) (fun _ => List.Sublist.refl _) (fun b296 x298 s297 => s_T (T := if (decide (((x270.count x298 : Nat) : Int) < ((x292.count x298 : Nat) : Int))) = true then inB (some (Tm.rt false)) else if (decide ((max ((x281.count x298 : Nat) : Int) ((x292.count x298 : Nat) : Int)) < ((x270.count x298 : Nat) : Int))) = true then inB (some (Tm.rt false)) else some (Bo.nx ())) (s_ifB ins_T (t_kd (c := fun (b_ : ((Unit × Unit) × (Unit × Unit))) => (decide (((x270.count x298 : Nat) : Int) < ((x292.count x298 : Nat) : Int)))) (t_lt (x_kd (E := fun (b_ : (Unit × Unit)) => pInt ((x270.count x298 : Nat) : Int)) (x_countI (x_var (p := (pL pInt) x270) 4) (fun _ => x_var (p := pInt x298) 7) (fun _ => rdF) (fun _ _ => rdF))) (fun _ => x_kd (E := fun (b_ : (Unit × Unit)) => pInt ((x292.count x298 : Nat) : Int)) (x_countI (x_var (p := (pL pInt) x292) 6) (fun _ => x_var (p := pInt x298) 7) (fun _ => rdF) (fun _ _ => rdF))))) (fun (b300 : ((Unit × Unit) × (Unit × Unit))) => s_T (T := some (Tm.rt false)) (s_ret (P := (fun _ => [])) (Rp := pBl) (ι := Tm.rt) (rv := fun (b : Unit) => false) (fun _ _ _ h => h) x_bl (fun _ => List.Sublist.refl _))) fun (b300 : ((Unit × Unit) × (Unit × Unit))) => s_T (T := if (decide ((max ((x281.count x298 : Nat) : Int) ((x292.count x298 : Nat) : Int)) < ((x270.count x298 : Nat) : Int))) = true then inB (some (Tm.rt false)) else some (Bo.nx ())) (s_ifB ins_T (t_kd (c := fun (b_ : ((Unit × Unit) × ((Unit × Unit) × (Unit × Unit)))) => (decide ((max ((x281.count x298 : Nat) : Int) ((x292.count x298 : Nat) : Int)) < ((x270.count x298 : Nat) : Int)))) (t_gt (x_kd (E := fun (b_ : (Unit × Unit)) => pInt ((x270.count x298 : Nat) : Int)) (x_countI (x_var (p := (pL pInt) x270) 4) (fun _ => x_var (p := pInt x298) 7) (fun _ => rdF) (fun _ _ => rdF))) (fun _ => x_kd (E := fun (b_ : ((Unit × Unit) × (Unit × Unit))) => pInt (max ((x281.count x298 : Nat) : Int) ((x292.count x298 : Nat) : Int))) (x_max2 m_max (x_kd (E := fun (b_ : (Unit × Unit)) => pInt ((x281.count x298 : Nat) : Int)) (x_countI (x_var (p := (pL pInt) x281) 5) (fun _ => x_var (p := pInt x298) 7) (fun _ => rdF) (fun _ _ => rdF))) (fun _ => x_kd (E := fun (b_ : (Unit × Unit)) => pInt ((x292.count x298 : Nat) : Int)) (x_countI (x_var (p := (pL pInt) x292) 6) (fun _ => x_var (p := pInt x298) 7) (fun _ => rdF) (fun _ _ => rdF))))))) (fun (b301 : ((Unit × Unit) × ((Unit × Unit) × (Unit × Unit)))) => s_T (T := some (Tm.rt false)) (s_ret (P := (fun _ => [])) (Rp := pBl) (ι := Tm.rt) (rv := fun (b : Unit) => false) (fun _ _ _ h => h) x_bl (fun _ => List.Sublist.refl _))) fun (b301 : ((Unit × Unit) × ((Unit × Unit) × (Unit × Unit)))) => s_endB () ⟨rfl, rfl, rfl, rfl, rfl, rfl, trivial⟩ (List.Sublist.refl _)))) (fun b296 s299 => s_T (T := some true) (s_ret (P := (fun _ => [])) (Rp := pBl) (ι := id) (rv := fun (b : Unit) => true) (fun _ _ _ h => h) x_bl (fun _ => List.Sublist.refl _))) (fun _ _ _ h => h))))))))) (fun _ _ _ h => h)))) (by unfold M_l_is_merged; rfl)
end
end My
end
section
set_option Elab.async false
set_option linter.all false
set_option maxRecDepth 100000
set_option maxHeartbeats 4000000
set_option pp.maxSteps 200
namespace My
open PySem PySem.Spec PyProof.Rows L2 L3
section
variable {P : Program} {w : World} {K : PySem.W.Frag} {mg : Str → Option Value} {base : Heap}
theorem sc_law : FnScope ["_law_script", "_law_stream_here", "_law_large", "_law_count", "_law_names_here", "_law_size", "_law_pool_here", "_law_one", "_law_two_here", "_law_spoil", "_law_kept", "_law_turn", "_law_whole", "_law_some", "_law_told"] ["_law_script"] (defScope (top 16)) := ⟨rfl, rfl, rfl, by decide +kernel, rfl, by decide +kernel, by decide +kernel⟩
theorem ok_law {f : Addr} {fd : FuncData} (C : Ev K mg) (FD : FnP K "law" (top 16) f fd)   : FnOk P w K mg base CX0 4 f fd ["_law_script"] (Sp_S K M_law) := by
  have m_dict := C.m_dict
  obtain ⟨f_l_stream, fd_l_stream, F_l_stream, g_l_stream⟩ := C.f_l_stream
  have k_l_stream := ok_l_stream (P := P) (w := w) (base := base) C F_l_stream
  have b_l_stream : Binds K fd_l_stream ["_law_script", "_law_k"] [] := F_l_stream.bindsN fun _ _ _ _ _ _ us hl => match us, hl with | [_, _], _ => rfl
  obtain ⟨f_l_next, fd_l_next, F_l_next, g_l_next⟩ := C.f_l_next
  have k_l_next := ok_l_next (P := P) (w := w) (base := base) C F_l_next
  have b_l_next : Binds K fd_l_next ["_law_stream_here", "_law_size"] [] := F_l_next.bindsN fun _ _ _ _ _ _ us hl => match us, hl with | [_, _], _ => rfl
  obtain ⟨f_l_drawn_names, fd_l_drawn_names, F_l_drawn_names, g_l_drawn_names⟩ := C.f_l_drawn_names
  have k_l_drawn_names := ok_l_drawn_names (P := P) (w := w) (base := base) C F_l_drawn_names
  have b_l_drawn_names : Binds K fd_l_drawn_names ["_law_stream_here", "_law_count"] [] := F_l_drawn_names.bindsN fun _ _ _ _ _ _ us hl => match us, hl with | [_, _], _ => rfl
  obtain ⟨f_l_pool, fd_l_pool, F_l_pool, g_l_pool⟩ := C.f_l_pool
  have k_l_pool := ok_l_pool (P := P) (w := w) (base := base) C F_l_pool
  have b_l_pool : Binds K fd_l_pool ["_law_stream_here", "_law_count"] [] := F_l_pool.bindsN fun _ _ _ _ _ _ us hl => match us, hl with | [_, _], _ => rfl
  obtain ⟨f_l_two, fd_l_two, F_l_two, g_l_two⟩ := C.f_l_two
  have k_l_two := ok_l_two (P := P) (w := w) (base := base) C F_l_two
  have b_l_two : Binds K fd_l_two ["_law_stream_here", "_law_names_here", "_law_pool_here"] [] := F_l_two.bindsN fun _ _ _ _ _ _ us hl => match us, hl with | [_, _, _], _ => rfl
  obtain ⟨f_merged_fit, fd_merged_fit, F_merged_fit, g_merged_fit⟩ := C.f_merged_fit
  have k_merged_fit := ok_merged_fit (P := P) (w := w) (base := base) C F_merged_fit
  have b_merged_fit : Binds K fd_merged_fit ["full", "part"] [] := F_merged_fit.bindsN fun _ _ _ _ _ _ us hl => match us, hl with | [_, _], _ => rfl
  obtain ⟨f_l_is_merged, fd_l_is_merged, F_l_is_merged, g_l_is_merged⟩ := C.f_l_is_merged
  have k_l_is_merged := ok_l_is_merged (P := P) (w := w) (base := base) C F_l_is_merged
  have b_l_is_merged : Binds K fd_l_is_merged ["_law_told", "_law_whole", "_law_some"] [] := F_l_is_merged.bindsN fun _ _ _ _ _ _ us hl => match us, hl with | [_, _, _], _ => rfl
  obtain ⟨f_l_same_values, fd_l_same_values, F_l_same_values, g_l_same_values⟩ := C.f_l_same_values
  have k_l_same_values := ok_l_same_values (P := P) (w := w) (base := base) C F_l_same_values
  have b_l_same_values : Binds K fd_l_same_values ["_law_actual", "_law_expected"] [] := F_l_same_values.bindsN fun _ _ _ _ _ _ us hl => match us, hl with | [_, _], _ => rfl
  refine fn_S FD sc_law rfl fun cdv A outer s H E hr Mq a1 => ?_
  exact s_is (s_T (T := (M_l_stream a1 (0 : Int)).bind fun r322 => (some (r322 : List Int)).bind fun x323 => (M_l_next x323 (6 : Int)).bind fun r327 => (some ((decide ((r327.1) = (5 : Int))) : Bool)).bind fun x328 => (M_l_next (r327.2) (11 : Int)).bind fun r330 => (some (r330.1 : Int)).bind fun x331 => (if x328 = true then (some ((16 : Int) : Int)).bind fun x411 => some x411 else some x331).bind fun s334 => (M_l_drawn_names (r330.2) s334).bind fun r335 => (some (r335.1 : List Str)).bind fun x336 => (M_l_next (r335.2) (4 : Int)).bind fun r338 => (some (((2 : Int) + (r338.1)) : Int)).bind fun x339 => (M_l_next (r338.2) (3 : Int)).bind fun r341 => (if (decide ((r341.1) = (0 : Int))) = true then (some ((s334 + (1 : Int)) : Int)).bind fun x409 => some (x409, r341.2) else some (x339, r341.2)).bind fun s343 => (M_l_pool (s343.2) (s343.1)).bind fun r344 => (some (r344.1 : List Int)).bind fun x345 => (M_l_stream a1 (1 : Int)).bind fun r347 => (M_l_two r347 x336 x345).bind fun r349 => (some (r349.1 : List (List (Str × Int)))).bind fun x350 => (M_l_stream a1 (2 : Int)).bind fun r352 => (M_l_two r352 x336 x345).bind fun r354 => (some (r354.1 : List (List (Str × Int)))).bind fun x355 => (M_l_stream a1 (3 : Int)).bind fun r357 => (M_l_next r357 (4 : Int)).bind fun r359 => (some ((decide ((r359.1) = (0 : Int))) : Bool)).bind fun x360 => (some ([] : List (List (Str × Int)))).bind fun x362 => (atI x350 (0 : Int)).bind fun x366 => (atI x355 (1 : Int)).bind fun x367 => (forL ([x350, [x366, x367], x355, x350]) (x362 : (List (List (Str × Int)))) fun x370 s369 => (atI x370 (0 : Int)).bind fun x374 => (some (x374 : List (Str × Int))).bind fun x375 => (atI x370 (1 : Int)).bind fun x379 => (some (x379 : List (Str × Int))).bind fun x380 => (M_merged_fit x375 x380).bind fun r384 => (some (r384 : List (Str × Int))).bind fun x385 => (atI x370 (0 : Int)).bind fun x389 => (atI x370 (1 : Int)).bind fun x390 => (M_l_is_merged x385 x389 x390).bind fun r391 => if (!r391) = true then inB (some (Tm.rt false)) else grd (s369.length < sizeLine) ((if x360 = true then some ([] : List (Str × Int)) else some x385).bind fun s395 => (atI x370 (0 : Int)).bind fun x396 => (M_l_same_values x375 x396).bind fun r397 => ((if (!r397) = true then some (true, ()) else (atI x370 (1 : Int)).bind fun x400 => (M_l_same_values x380 x400).bind fun r401 => some ((!r401), ()))).bind fun c402 => if c402.1 = true then inB (some (Tm.rt false)) else (if x360 = true then some (([] : List (Str × Int)), ([] : List (Str × Int))) else some (x380, x375)).bind fun s405 => some (Bo.nx (s369 ++ [x385])))).bind (boK (fun s371 => (atI s371 (3 : Int)).bind fun x372 => (atI s371 (0 : Int)).bind fun x373 => some (deq x372 x373)) id)) (s_letO (i := 1) (oL pInt) sc_law.nd (o_kd (E := fun (b_ : ((Unit × Unit) × (List Int))) => (oL pInt) b_.2) (x_FF_o (kk := 1) (E1 := (pS K)) (E2 := pInt) k_l_stream (hr.mono (by decide)) g_l_stream F_l_stream.kp b_l_stream (x_var (p := (pS K) a1) 0) (fun _ => x_int (i := 0)))) fun (b324 : ((Unit × Unit) × (List Int))) x323 v326 G325 => s_T (T := (M_l_next x323 (6 : Int)).bind fun r327 => (some ((decide ((r327.1) = (5 : Int))) : Bool)).bind fun x328 => (M_l_next (r327.2) (11 : Int)).bind fun r330 => (some (r330.1 : Int)).bind fun x331 => (if x328 = true then (some ((16 : Int) : Int)).bind fun x411 => some x411 else some x331).bind fun s334 => (M_l_drawn_names (r330.2) s334).bind fun r335 => (some (r335.1 : List Str)).bind fun x336 => (M_l_next (r335.2) (4 : Int)).bind fun r338 => (some (((2 : Int) + (r338.1)) : Int)).bind fun x339 => (M_l_next (r338.2) (3 : Int)).bind fun r341 => (if (decide ((r341.1) = (0 : Int))) = true then (some ((s334 + (1 : Int)) : Int)).bind fun x409 => some (x409, r341.2) else some (x339, r341.2)).bind fun s343 => (M_l_pool (s343.2) (s343.1)).bind fun r344 => (some (r344.1 : List Int)).bind fun x345 => (M_l_stream a1 (1 : Int)).bind fun r347 => (M_l_two r347 x336 x345).bind fun r349 => (some (r349.1 : List (List (Str × Int)))).bind fun x350 => (M_l_stream a1 (2 : Int)).bind fun r352 => (M_l_two r352 x336 x345).bind fun r354 => (some (r354.1 : List (List (Str × Int)))).bind fun x355 => (M_l_stream a1 (3 : Int)).bind fun r357 => (M_l_next r357 (4 : Int)).bind fun r359 => (some ((decide ((r359.1) = (0 : Int))) : Bool)).bind fun x360 => (some ([] : List (List (Str × Int)))).bind fun x362 => (atI x350 (0 : Int)).bind fun x366 => (atI x355 (1 : Int)).bind fun x367 => (forL ([x350, [x366, x367], x355, x350]) (x362 : (List (List (Str × Int)))) fun x370 s369 => (atI x370 (0 : Int)).bind fun x374 => (some (x374 : List (Str × Int))).bind fun x375 => (atI x370 (1 : Int)).bind fun x379 => (some (x379 : List (Str × Int))).bind fun x380 => (M_merged_fit x375 x380).bind fun r384 => (some (r384 : List (Str × Int))).bind fun x385 => (atI x370 (0 : Int)).bind fun x389 => (atI x370 (1 : Int)).bind fun x390 => (M_l_is_merged x385 x389 x390).bind fun r391 => if (!r391) = true then inB (some (Tm.rt false)) else grd (s369.length < sizeLine) ((if x360 = true then some ([] : List (Str × Int)) else some x385).bind fun s395 => (atI x370 (0 : Int)).bind fun x396 => (M_l_same_values x375 x396).bind fun r397 => ((if (!r397) = true then some (true, ()) else (atI x370 (1 : Int)).bind fun x400 => (M_l_same_values x380 x400).bind fun r401 => some ((!r401), ()))).bind fun c402 => if c402.1 = true then inB (some (Tm.rt false)) else (if x360 = true then some (([] : List (Str × Int)), ([] : List (Str × Int))) else some (x380, x375)).bind fun s405 => some (Bo.nx (s369 ++ [x385])))).bind (boK (fun s371 => (atI s371 (3 : Int)).bind fun x372 => (atI s371 (0 : Int)).bind fun x373 => some (deq x372 x373)) id)) (s_let (i := 2) pBl sc_law.nd (x_kd (E := fun (b_ : (((Unit × Unit) × (Int × (List Int))) × Unit)) => pBl (decide ((b_.1.2.1) = (5 : Int)))) (x_eqI (x_kd (E := fun (b_ : ((Unit × Unit) × (Int × (List Int)))) => pInt b_.2.1) (x_OF_f (kk := 1) (E1 := (oL pInt)) (E2 := pInt) (s1 := fun (_ : Unit) (_ : Unit) => x323) (G1 := G325) (v1 := v326) k_l_next (hr.mono (by decide)) g_l_next F_l_next.kp b_l_next 0 (x_var (p := pV v326) 1) (fun _ => x_int (i := 6)) (fun _ _ => rfl) (hw_of 0))) (fun _ => x_int (i := 5)))) fun (b329 : (((Unit × Unit) × (Int × (List Int))) × Unit)) x328 => s_T (T := (M_l_next (b329.1.2.2) (11 : Int)).bind fun r330 => (some (r330.1 : Int)).bind fun x331 => (if x328 = true then (some ((16 : Int) : Int)).bind fun x411 => some x411 else some x331).bind fun s334 => (M_l_drawn_names (r330.2) s334).bind fun r335 => (some (r335.1 : List Str)).bind fun x336 => (M_l_next (r335.2) (4 : Int)).bind fun r338 => (some (((2 : Int) + (r338.1)) : Int)).bind fun x339 => (M_l_next (r338.2) (3 : Int)).bind fun r341 => (if (decide ((r341.1) = (0 : Int))) = true then (some ((s334 + (1 : Int)) : Int)).bind fun x409 => some (x409, r341.2) else some (x339, r341.2)).bind fun s343 => (M_l_pool (s343.2) (s343.1)).bind fun r344 => (some (r344.1 : List Int)).bind fun x345 => (M_l_stream a1 (1 : Int)).bind fun r347 => (M_l_two r347 x336 x345).bind fun r349 => (some (r349.1 : List (List (Str × Int)))).bind fun x350 => (M_l_stream a1 (2 : Int)).bind fun r352 => (M_l_two r352 x336 x345).bind fun r354 => (some (r354.1 : List (List (Str × Int)))).bind fun x355 => (M_l_stream a1 (3 : Int)).bind fun r357 => (M_l_next r357 (4 : Int)).bind fun r359 => (some ((decide ((r359.1) = (0 : Int))) : Bool)).bind fun x360 => (some ([] : List (List (Str × Int)))).bind fun x362 => (atI x350 (0 : Int)).bind fun x366 => (atI x355 (1 : Int)).bind fun x367 => (forL ([x350, [x366, x367], x355, x350]) (x362 : (List (List (Str × Int)))) fun x370 s369 => (atI x370 (0 : Int)).bind fun x374 => (some (x374 : List (Str × Int))).bind fun x375 => (atI x370 (1 : Int)).bind fun x379 => (some (x379 : List (Str × Int))).bind fun x380 => (M_merged_fit x375 x380).bind fun r384 => (some (r384 : List (Str × Int))).bind fun x385 => (atI x370 (0 : Int)).bind fun x389 => (atI x370 (1 : Int)).bind fun x390 => (M_l_is_merged x385 x389 x390).bind fun r391 => if (!r391) = true then inB (some (Tm.rt false)) else grd (s369.length < sizeLine) ((if x360 = true then some ([] : List (Str × Int)) else some x385).bind fun s395 => (atI x370 (0 : Int)).bind fun x396 => (M_l_same_values x375 x396).bind fun r397 => ((if (!r397) = true then some (true, ()) else (atI x370 (1 : Int)).bind fun x400 => (M_l_same_values x380 x400).bind fun r401 => some ((!r401), ()))).bind fun c402 => if c402.1 = true then inB (some (Tm.rt false)) else (if x360 = true then some (([] : List (Str × Int)), ([] : List (Str × Int))) else some (x380, x375)).bind fun s405 => some (Bo.nx (s369 ++ [x385])))).bind (boK (fun s371 => (atI s371 (3 : Int)).bind fun x372 => (atI s371 (0 : Int)).bind fun x373 => some (deq x372 x373)) id)) (s_let (i := 3) pInt sc_law.nd (x_kd (E := fun (b_ : ((Unit × Unit) × (Int × (List Int)))) => pInt b_.2.1) (x_OF_f (kk := 1) (E1 := (oL pInt)) (E2 := pInt) (s1 := fun (_ : Unit) (_ : Unit) => b329.1.2.2) (G1 := G325) (v1 := v326) k_l_next (hr.mono (by decide)) g_l_next F_l_next.kp b_l_next 0 (x_var (p := pV v326) 1) (fun _ => x_int (i := 11)) (fun _ _ => rfl) (hw_of 0))) fun (b332 : ((Unit × Unit) × (Int × (List Int)))) x331 => s_T (T := (if x328 = true then (some ((16 : Int) : Int)).bind fun x411 => some x411 else some x331).bind fun s334 => (M_l_drawn_names (b332.2.2) s334).bind fun r335 => (some (r335.1 : List Str)).bind fun x336 => (M_l_next (r335.2) (4 : Int)).bind fun r338 => (some (((2 : Int) + (r338.1)) : Int)).bind fun x339 => (M_l_next (r338.2) (3 : Int)).bind fun r341 => (if (decide ((r341.1) = (0 : Int))) = true then (some ((s334 + (1 : Int)) : Int)).bind fun x409 => some (x409, r341.2) else some (x339, r341.2)).bind fun s343 => (M_l_pool (s343.2) (s343.1)).bind fun r344 => (some (r344.1 : List Int)).bind fun x345 => (M_l_stream a1 (1 : Int)).bind fun r347 => (M_l_two r347 x336 x345).bind fun r349 => (some (r349.1 : List (List (Str × Int)))).bind fun x350 => (M_l_stream a1 (2 : Int)).bind fun r352 => (M_l_two r352 x336 x345).bind fun r354 => (some (r354.1 : List (List (Str × Int)))).bind fun x355 => (M_l_stream a1 (3 : Int)).bind fun r357 => (M_l_next r357 (4 : Int)).bind fun r359 => (some ((decide ((r359.1) = (0 : Int))) : Bool)).bind fun x360 => (some ([] : List (List (Str × Int)))).bind fun x362 => (atI x350 (0 : Int)).bind fun x366 => (atI x355 (1 : Int)).bind fun x367 => (forL ([x350, [x366, x367], x355, x350]) (x362 : (List (List (Str × Int)))) fun x370 s369 => (atI x370 (0 : Int)).bind fun x374 => (some (x374 : List (Str × Int))).bind fun x375 => (atI x370 (1 : Int)).bind fun x379 => (some (x379 : List (Str × Int))).bind fun x380 => (M_merged_fit x375 x380).bind fun r384 => (some (r384 : List (Str × Int))).bind fun x385 => (atI x370 (0 : Int)).bind fun x389 => (atI x370 (1 : Int)).bind fun x390 => (M_l_is_merged x385 x389 x390).bind fun r391 => if (!r391) = true then inB (some (Tm.rt false)) else grd (s369.length < sizeLine) ((if x360 = true then some ([] : List (Str × Int)) else some x385).bind fun s395 => (atI x370 (0 : Int)).bind fun x396 => (M_l_same_values x375 x396).bind fun r397 => ((if (!r397) = true then some (true, ()) else (atI x370 (1 : Int)).bind fun x400 => (M_l_same_values x380 x400).bind fun r401 => some ((!r401), ()))).bind fun c402 => if c402.1 = true then inB (some (Tm.rt false)) else (if x360 = true then some (([] : List (Str × Int)), ([] : List (Str × Int))) else some (x380, x375)).bind fun s405 => some (Bo.nx (s369 ++ [x385])))).bind (boK (fun s371 => (atI s371 (3 : Int)).bind fun x372 => (atI s371 (0 : Int)).bind fun x373 => some (deq x372 x373)) id)) (s_ifN (C := fun s_ : Int => ([some ((pS K) a1), some (pV v326), some (pBl x328), some (pInt s_), none, none, none, none, none, none, none, none, none, none, none], [⟨G325, v326, (oL pInt) b332.2.2, false⟩])) (t_kd (c := fun (b_ : Unit) => x328) (t_val (x_var (p := pBl x328) 2))) (fun (b333 : Unit) => s_T (T := (some ((16 : Int) : Int)).bind fun x411 => some x411) (s_let (i := 3) pInt sc_law.nd (x_int (i := 16)) fun (b412 : Unit) x411 => s_end x411 rfl ⟨rfl, rfl, rfl, rfl, trivial⟩ (List.Sublist.refl _))) (fun (b333 : Unit) => s_end x331 rfl ⟨rfl, rfl, rfl, rfl, trivial⟩ (List.Sublist.refl _)) fun (b333 : Unit) s334 => s_T (T := (M_l_drawn_names (b332.2.2) s334).bind fun r335 => (some (r335.1 : List Str)).bind fun x336 => (M_l_next (r335.2) (4 : Int)).bind fun r338 => (some (((2 : Int) + (r338.1)) : Int)).bind fun x339 => (M_l_next (r338.2) (3 : Int)).bind fun r341 => (if (decide ((r341.1) = (0 : Int))) = true then (some ((s334 + (1 : Int)) : Int)).bind fun x409 => some (x409, r341.2) else some (x339, r341.2)).bind fun s343 => (M_l_pool (s343.2) (s343.1)).bind fun r344 => (some (r344.1 : List Int)).bind fun x345 => (M_l_stream a1 (1 : Int)).bind fun r347 => (M_l_two r347 x336 x345).bind fun r349 => (some (r349.1 : List (List (Str × Int)))).bind fun x350 => (M_l_stream a1 (2 : Int)).bind fun r352 => (M_l_two r352 x336 x345).bind fun r354 => (some (r354.1 : List (List (Str × Int)))).bind fun x355 => (M_l_stream a1 (3 : Int)).bind fun r357 => (M_l_next r357 (4 : Int)).bind fun r359 => (some ((decide ((r359.1) = (0 : Int))) : Bool)).bind fun x360 => (some ([] : List (List (Str × Int)))).bind fun x362 => (atI x350 (0 : Int)).bind fun x366 => (atI x355 (1 : Int)).bind fun x367 => (forL ([x350, [x366, x367], x355, x350]) (x362 : (List (List (Str × Int)))) fun x370 s369 => (atI x370 (0 : Int)).bind fun x374 => (some (x374 : List (Str × Int))).bind fun x375 => (atI x370 (1 : Int)).bind fun x379 => (some (x379 : List (Str × Int))).bind fun x380 => (M_merged_fit x375 x380).bind fun r384 => (some (r384 : List (Str × Int))).bind fun x385 => (atI x370 (0 : Int)).bind fun x389 => (atI x370 (1 : Int)).bind fun x390 => (M_l_is_merged x385 x389 x390).bind fun r391 => if (!r391) = true then inB (some (Tm.rt false)) else grd (s369.length < sizeLine) ((if x360 = true then some ([] : List (Str × Int)) else some x385).bind fun s395 => (atI x370 (0 : Int)).bind fun x396 => (M_l_same_values x375 x396).bind fun r397 => ((if (!r397) = true then some (true, ()) else (atI x370 (1 : Int)).bind fun x400 => (M_l_same_values x380 x400).bind fun r401 => some ((!r401), ()))).bind fun c402 => if c402.1 = true then inB (some (Tm.rt false)) else (if x360 = true then some (([] : List (Str × Int)), ([] : List (Str × Int))) else some (x380, x375)).bind fun s405 => some (Bo.nx (s369 ++ [x385])))).bind (boK (fun s371 => (atI s371 (3 : Int)).bind fun x372 => (atI s371 (0 : Int)).bind fun x373 => some (deq x372 x373)) id)) (s_let (i := 4) (pL pStr) sc_law.nd (x_kd (E := fun (b_ : ((Unit × Unit) × ((List Str) × (List Int)))) => (pL pStr) b_.2.1) (x_frz (o_kd (E := fun (b_ : ((Unit × Unit) × ((List Str) × (List Int)))) => (oL pStr) b_.2.1) (x_OF_o (kk := 3) (E1 := (oL pInt)) (E2 := pInt) (s1 := fun (_ : Unit) (_ : Unit) => b332.2.2) (G1 := G325) (v1 := v326) k_l_drawn_names (hr.mono (by decide)) g_l_drawn_names F_l_drawn_names.kp b_l_drawn_names 0 (x_var (p := pV v326) 1) (fun _ => x_var (p := pInt s334) 3) (fun _ _ => rfl) (hw_of 0))))) fun (b337 : ((Unit × Unit) × ((List Str) × (List Int)))) x336 => s_T (T := (M_l_next (b337.2.2) (4 : Int)).bind fun r338 => (some (((2 : Int) + (r338.1)) : Int)).bind fun x339 => (M_l_next (r338.2) (3 : Int)).bind fun r341 => (if (decide ((r341.1) = (0 : Int))) = true then (some ((s334 + (1 : Int)) : Int)).bind fun x409 => some (x409, r341.2) else some (x339, r341.2)).bind fun s343 => (M_l_pool (s343.2) (s343.1)).bind fun r344 => (some (r344.1 : List Int)).bind fun x345 => (M_l_stream a1 (1 : Int)).bind fun r347 => (M_l_two r347 x336 x345).bind fun r349 => (some (r349.1 : List (List (Str × Int)))).bind fun x350 => (M_l_stream a1 (2 : Int)).bind fun r352 => (M_l_two r352 x336 x345).bind fun r354 => (some (r354.1 : List (List (Str × Int)))).bind fun x355 => (M_l_stream a1 (3 : Int)).bind fun r357 => (M_l_next r357 (4 : Int)).bind fun r359 => (some ((decide ((r359.1) = (0 : Int))) : Bool)).bind fun x360 => (some ([] : List (List (Str × Int)))).bind fun x362 => (atI x350 (0 : Int)).bind fun x366 => (atI x355 (1 : Int)).bind fun x367 => (forL ([x350, [x366, x367], x355, x350]) (x362 : (List (List (Str × Int)))) fun x370 s369 => (atI x370 (0 : Int)).bind fun x374 => (some (x374 : List (Str × Int))).bind fun x375 => (atI x370 (1 : Int)).bind fun x379 => (some (x379 : List (Str × Int))).bind fun x380 => (M_merged_fit x375 x380).bind fun r384 => (some (r384 : List (Str × Int))).bind fun x385 => (atI x370 (0 : Int)).bind fun x389 => (atI x370 (1 : Int)).bind fun x390 => (M_l_is_merged x385 x389 x390).bind fun r391 => if (!r391) = true then inB (some (Tm.rt false)) else grd (s369.length < sizeLine) ((if x360 = true then some ([] : List (Str × Int)) else some x385).bind fun s395 => (atI x370 (0 : Int)).bind fun x396 => (M_l_same_values x375 x396).bind fun r397 => ((if (!r397) = true then some (true, ()) else (atI x370 (1 : Int)).bind fun x400 => (M_l_same_values x380 x400).bind fun r401 => some ((!r401), ()))).bind fun c402 => if c402.1 = true then inB (some (Tm.rt false)) else (if x360 = true then some (([] : List (Str × Int)), ([] : List (Str × Int))) else some (x380, x375)).bind fun s405 => some (Bo.nx (s369 ++ [x385])))).bind (boK (fun s371 => (atI s371 (3 : Int)).bind fun x372 => (atI s371 (0 : Int)).bind fun x373 => some (deq x372 x373)) id)) (s_let (i := 5) pInt sc_law.nd (x_kd (E := fun (b_ : (Unit × ((Unit × Unit) × (Int × (List Int))))) => pInt ((2 : Int) + (b_.2.2.1))) (x_add (x_int (i := 2)) (fun _ => x_kd (E := fun (b_ : ((Unit × Unit) × (Int × (List Int)))) => pInt b_.2.1) (x_OF_f (kk := 1) (E1 := (oL pInt)) (E2 := pInt) (s1 := fun (_ : Unit) (_ : Unit) => b337.2.2) (G1 := G325) (v1 := v326) k_l_next (hr.mono (by decide)) g_l_next F_l_next.kp b_l_next 0 (x_var (p := pV v326) 1) (fun _ => x_int (i := 4)) (fun _ _ => rfl) (hw_of 0))))) fun (b340 : (Unit × ((Unit × Unit) × (Int × (List Int))))) x339 => s_T (T := (M_l_next (b340.2.2.2) (3 : Int)).bind fun r341 => (if (decide ((r341.1) = (0 : Int))) = true then (some ((s334 + (1 : Int)) : Int)).bind fun x409 => some (x409, r341.2) else some (x339, r341.2)).bind fun s343 => (M_l_pool (s343.2) (s343.1)).bind fun r344 => (some (r344.1 : List Int)).bind fun x345 => (M_l_stream a1 (1 : Int)).bind fun r347 => (M_l_two r347 x336 x345).bind fun r349 => (some (r349.1 : List (List (Str × Int)))).bind fun x350 => (M_l_stream a1 (2 : Int)).bind fun r352 => (M_l_two r352 x336 x345).bind fun r354 => (some (r354.1 : List (List (Str × Int)))).bind fun x355 => (M_l_stream a1 (3 : Int)).bind fun r357 => (M_l_next r357 (4 : Int)).bind fun r359 => (some ((decide ((r359.1) = (0 : Int))) : Bool)).bind fun x360 => (some ([] : List (List (Str × Int)))).bind fun x362 => (atI x350 (0 : Int)).bind fun x366 => (atI x355 (1 : Int)).bind fun x367 => (forL ([x350, [x366, x367], x355, x350]) (x362 : (List (List (Str × Int)))) fun x370 s369 => (atI x370 (0 : Int)).bind fun x374 => (some (x374 : List (Str × Int))).bind fun x375 => (atI x370 (1 : Int)).bind fun x379 => (some (x379 : List (Str × Int))).bind fun x380 => (M_merged_fit x375 x380).bind fun r384 => (some (r384 : List (Str × Int))).bind fun x385 => (atI x370 (0 : Int)).bind fun x389 => (atI x370 (1 : Int)).bind fun x390 => (M_l_is_merged x385 x389 x390).bind fun r391 => if (!r391) = true then inB (some (Tm.rt false)) else grd (s369.length < sizeLine) ((if x360 = true then some ([] : List (Str × Int)) else some x385).bind fun s395 => (atI x370 (0 : Int)).bind fun x396 => (M_l_same_values x375 x396).bind fun r397 => ((if (!r397) = true then some (true, ()) else (atI x370 (1 : Int)).bind fun x400 => (M_l_same_values x380 x400).bind fun r401 => some ((!r401), ()))).bind fun c402 => if c402.1 = true then inB (some (Tm.rt false)) else (if x360 = true then some (([] : List (Str × Int)), ([] : List (Str × Int))) else some (x380, x375)).bind fun s405 => some (Bo.nx (s369 ++ [x385])))).bind (boK (fun s371 => (atI s371 (3 : Int)).bind fun x372 => (atI s371 (0 : Int)).bind fun x373 => some (deq x372 x373)) id)) (s_ifN (C := fun s_ : Int × (List Int) => ([some ((pS K) a1), some (pV v326), some (pBl x328), some (pInt s334), some ((pL pStr) x336), some (pInt s_.1), none, none, none, none, none, none, none, none, none], [⟨G325, v326, (oL pInt) s_.2, false⟩])) (t_kd (c := fun (b_ : (((Unit × Unit) × (Int × (List Int))) × Unit)) => (decide ((b_.1.2.1) = (0 : Int)))) (t_eqI (x_kd (E := fun (b_ : ((Unit × Unit) × (Int × (List Int)))) => pInt b_.2.1) (x_OF_f (kk := 1) (E1 := (oL pInt)) (E2 := pInt) (s1 := fun (_ : Unit) (_ : Unit) => b340.2.2.2) (G1 := G325) (v1 := v326) k_l_next (hr.mono (by decide)) g_l_next F_l_next.kp b_l_next 0 (x_var (p := pV v326) 1) (fun _ => x_int (i := 3)) (fun _ _ => rfl) (hw_of 0))) (fun _ => x_int (i := 0)))) (fun (b342 : (((Unit × Unit) × (Int × (List Int))) × Unit)) => s_T (T := (some ((s334 + (1 : Int)) : Int)).bind fun x409 => some (x409, b342.1.2.2)) (s_let (i := 5) pInt sc_law.nd (x_kd (E := fun (b_ : (Unit × Unit)) => pInt (s334 + (1 : Int))) (x_add (x_var (p := pInt s334) 3) (fun _ => x_int (i := 1)))) fun (b410 : (Unit × Unit)) x409 => s_end (x409, b342.1.2.2) rfl ⟨rfl, rfl, rfl, rfl, rfl, rfl, trivial⟩ (List.Sublist.refl _))) (fun (b342 : (((Unit × Unit) × (Int × (List Int))) × Unit)) => s_end (x339, b342.1.2.2) rfl ⟨rfl, rfl, rfl, rfl, rfl, rfl, trivial⟩ (List.Sublist.refl _)) fun (b342 : (((Unit × Unit) × (Int × (List Int))) × Unit)) s343 => s_T (T := (M_l_pool (s343.2) (s343.1)).bind fun r344 => (some (r344.1 : List Int)).bind fun x345 => (M_l_stream a1 (1 : Int)).bind fun r347 => (M_l_two r347 x336 x345).bind fun r349 => (some (r349.1 : List (List (Str × Int)))).bind fun x350 => (M_l_stream a1 (2 : Int)).bind fun r352 => (M_l_two r352 x336 x345).bind fun r354 => (some (r354.1 : List (List (Str × Int)))).bind fun x355 => (M_l_stream a1 (3 : Int)).bind fun r357 => (M_l_next r357 (4 : Int)).bind fun r359 => (some ((decide ((r359.1) = (0 : Int))) : Bool)).bind fun x360 => (some ([] : List (List (Str × Int)))).bind fun x362 => (atI x350 (0 : Int)).bind fun x366 => (atI x355 (1 : Int)).bind fun x367 => (forL ([x350, [x366, x367], x355, x350]) (x362 : (List (List (Str × Int)))) fun x370 s369 => (atI x370 (0 : Int)).bind fun x374 => (some (x374 : List (Str × Int))).bind fun x375 => (atI x370 (1 : Int)).bind fun x379 => (some (x379 : List (Str × Int))).bind fun x380 => (M_merged_fit x375 x380).bind fun r384 => (some (r384 : List (Str × Int))).bind fun x385 => (atI x370 (0 : Int)).bind fun x389 => (atI x370 (1 : Int)).bind fun x390 => (M_l_is_merged x385 x389 x390).bind fun r391 => if (!r391) = true then inB (some (Tm.rt false)) else grd (s369.length < sizeLine) ((if x360 = true then some ([] : List (Str × Int)) else some x385).bind fun s395 => (atI x370 (0 : Int)).bind fun x396 => (M_l_same_values x375 x396).bind fun r397 => ((if (!r397) = true then some (true, ()) else (atI x370 (1 : Int)).bind fun x400 => (M_l_same_values x380 x400).bind fun r401 => some ((!r401), ()))).bind fun c402 => if c402.1 = true then inB (some (Tm.rt false)) else (if x360 = true then some (([] : List (Str × Int)), ([] : List (Str × Int))) else some (x380, x375)).bind fun s405 => some (Bo.nx (s369 ++ [x385])))).bind (boK (fun s371 => (atI s371 (3 : Int)).bind fun x372 => (atI s371 (0 : Int)).bind fun x373 => some (deq x372 x373)) id)) (s_let (i := 6) (pL pInt) sc_law.nd (x_kd (E := fun (b_ : ((Unit × Unit) × ((List Int) × (List Int)))) => (pL pInt) b_.2.1) (x_frz (o_kd (E := fun (b_ : ((Unit × Unit) × ((List Int) × (List Int)))) => (oL pInt) b_.2.1) (x_OF_o (kk := 2) (E1 := (oL pInt)) (E2 := pInt) (s1 := fun (_ : Unit) (_ : Unit) => s343.2) (G1 := G325) (v1 := v326) k_l_pool (hr.mono (by decide)) g_l_pool F_l_pool.kp b_l_pool 0 (x_var (p := pV v326) 1) (fun _ => x_var (p := pInt s343.1) 5) (fun _ _ => rfl) (hw_of 0))))) fun (b346 : ((Unit × Unit) × ((List Int) × (List Int)))) x345 => s_T (T := (M_l_stream a1 (1 : Int)).bind fun r347 => (M_l_two r347 x336 x345).bind fun r349 => (some (r349.1 : List (List (Str × Int)))).bind fun x350 => (M_l_stream a1 (2 : Int)).bind fun r352 => (M_l_two r352 x336 x345).bind fun r354 => (some (r354.1 : List (List (Str × Int)))).bind fun x355 => (M_l_stream a1 (3 : Int)).bind fun r357 => (M_l_next r357 (4 : Int)).bind fun r359 => (some ((decide ((r359.1) = (0 : Int))) : Bool)).bind fun x360 => (some ([] : List (List (Str × Int)))).bind fun x362 => (atI x350 (0 : Int)).bind fun x366 => (atI x355 (1 : Int)).bind fun x367 => (forL ([x350, [x366, x367], x355, x350]) (x362 : (List (List (Str × Int)))) fun x370 s369 => (atI x370 (0 : Int)).bind fun x374 => (some (x374 : List (Str × Int))).bind fun x375 => (atI x370 (1 : Int)).bind fun x379 => (some (x379 : List (Str × Int))).bind fun x380 => (M_merged_fit x375 x380).bind fun r384 => (some (r384 : List (Str × Int))).bind fun x385 => (atI x370 (0 : Int)).bind fun x389 => (atI x370 (1 : Int)).bind fun x390 => (M_l_is_merged x385 x389 x390).bind fun r391 => if (!r391) = true then inB (some (Tm.rt false)) else grd (s369.length < sizeLine) ((if x360 = true then some ([] : List (Str × Int)) else some x385).bind fun s395 => (atI x370 (0 : Int)).bind fun x396 => (M_l_same_values x375 x396).bind fun r397 => ((if (!r397) = true then some (true, ()) else (atI x370 (1 : Int)).bind fun x400 => (M_l_same_values x380 x400).bind fun r401 => some ((!r401), ()))).bind fun c402 => if c402.1 = true then inB (some (Tm.rt false)) else (if x360 = true then some (([] : List (Str × Int)), ([] : List (Str × Int))) else some (x380, x375)).bind fun s405 => some (Bo.nx (s369 ++ [x385])))).bind (boK (fun s371 => (atI s371 (3 : Int)).bind fun x372 => (atI s371 (0 : Int)).bind fun x373 => some (deq x372 x373)) id)) (s_let (i := 7) (pL (pM (κ := Str) pInt)) sc_law.nd (x_kd (E := fun (b_ : ((((Unit × Unit) × (List Int)) × (Unit × Unit)) × ((List (List (Str × Int))) × (List Int)))) => (pL (pM (κ := Str) pInt)) b_.2.1) (x_frz (o_kd (E := fun (b_ : ((((Unit × Unit) × (List Int)) × (Unit × Unit)) × ((List (List (Str × Int))) × (List Int)))) => (oL (pM (κ := Str) pInt)) b_.2.1) (x_TFF_o (kk := 3) (E1 := (oL pInt)) (E2 := (pL pStr)) (E3 := (pL pInt)) k_l_two (hr.mono (by decide)) g_l_two F_l_two.kp b_l_two (o_kd (E := fun (b_ : ((Unit × Unit) × (List Int))) => (oL pInt) b_.2) (x_FF_o (kk := 1) (E1 := (pS K)) (E2 := pInt) k_l_stream (hr.mono (by decide)) g_l_stream F_l_stream.kp b_l_stream (x_var (p := (pS K) a1) 0) (fun _ => x_int (i := 1)))) (fun _ vt_ Gt_  => x_var (p := (pL pStr) x336) 4) (fun _ vt_ Gt_ _ => x_var (p := (pL pInt) x345) 6))))) fun (b351 : ((((Unit × Unit) × (List Int)) × (Unit × Unit)) × ((List (List (Str × Int))) × (List Int)))) x350 => s_T (T := (M_l_stream a1 (2 : Int)).bind fun r352 => (M_l_two r352 x336 x345).bind fun r354 => (some (r354.1 : List (List (Str × Int)))).bind fun x355 => (M_l_stream a1 (3 : Int)).bind fun r357 => (M_l_next r357 (4 : Int)).bind fun r359 => (some ((decide ((r359.1) = (0 : Int))) : Bool)).bind fun x360 => (some ([] : List (List (Str × Int)))).bind fun x362 => (atI x350 (0 : Int)).bind fun x366 => (atI x355 (1 : Int)).bind fun x367 => (forL ([x350, [x366, x367], x355, x350]) (x362 : (List (List (Str × Int)))) fun x370 s369 => (atI x370 (0 : Int)).bind fun x374 => (some (x374 : List (Str × Int))).bind fun x375 => (atI x370 (1 : Int)).bind fun x379 => (some (x379 : List (Str × Int))).bind fun x380 => (M_merged_fit x375 x380).bind fun r384 => (some (r384 : List (Str × Int))).bind fun x385 => (atI x370 (0 : Int)).bind fun x389 => (atI x370 (1 : Int)).bind fun x390 => (M_l_is_merged x385 x389 x390).bind fun r391 => if (!r391) = true then inB (some (Tm.rt false)) else grd (s369.length < sizeLine) ((if x360 = true then some ([] : List (Str × Int)) else some x385).bind fun s395 => (atI x370 (0 : Int)).bind fun x396 => (M_l_same_values x375 x396).bind fun r397 => ((if (!r397) = true then some (true, ()) else (atI x370 (1 : Int)).bind fun x400 => (M_l_same_values x380 x400).bind fun r401 => some ((!r401), ()))).bind fun c402 => if c402.1 = true then inB (some (Tm.rt false)) else (if x360 = true then some (([] : List (Str × Int)), ([] : List (Str × Int))) else some (x380, x375)).bind fun s405 => some (Bo.nx (s369 ++ [x385])))).bind (boK (fun s371 => (atI s371 (3 : Int)).bind fun x372 => (atI s371 (0 : Int)).bind fun x373 => some (deq x372 x373)) id)) (s_let (i := 8) (pL (pM (κ := Str) pInt)) sc_law.nd (x_kd (E := fun (b_ : ((((Unit × Unit) × (List Int)) × (Unit × Unit)) × ((List (List (Str × Int))) × (List Int)))) => (pL (pM (κ := Str) pInt)) b_.2.1) (x_frz (o_kd (E := fun (b_ : ((((Unit × Unit) × (List Int)) × (Unit × Unit)) × ((List (List (Str × Int))) × (List Int)))) => (oL (pM (κ := Str) pInt)) b_.2.1) (x_TFF_o (kk := 3) (E1 := (oL pInt)) (E2 := (pL pStr)) (E3 := (pL pInt)) k_l_two (hr.mono (by decide)) g_l_two F_l_two.kp b_l_two (o_kd (E := fun (b_ : ((Unit × Unit) × (List Int))) => (oL pInt) b_.2) (x_FF_o (kk := 1) (E1 := (pS K)) (E2 := pInt) k_l_stream (hr.mono (by decide)) g_l_stream F_l_stream.kp b_l_stream (x_var (p := (pS K) a1) 0) (fun _ => x_int (i := 2)))) (fun _ vt_ Gt_  => x_var (p := (pL pStr) x336) 4) (fun _ vt_ Gt_ _ => x_var (p := (pL pInt) x345) 6))))) fun (b356 : ((((Unit × Unit) × (List Int)) × (Unit × Unit)) × ((List (List (Str × Int))) × (List Int)))) x355 => s_T (T := (M_l_stream a1 (3 : Int)).bind fun r357 => (M_l_next r357 (4 : Int)).bind fun r359 => (some ((decide ((r359.1) = (0 : Int))) : Bool)).bind fun x360 => (some ([] : List (List (Str × Int)))).bind fun x362 => (atI x350 (0 : Int)).bind fun x366 => (atI x355 (1 : Int)).bind fun x367 => (forL ([x350, [x366, x367], x355, x350]) (x362 : (List (List (Str × Int)))) fun x370 s369 => (atI x370 (0 : Int)).bind fun x374 => (some (x374 : List (Str × Int))).bind fun x375 => (atI x370 (1 : Int)).bind fun x379 => (some (x379 : List (Str × Int))).bind fun x380 => (M_merged_fit x375 x380).bind fun r384 => (some (r384 : List (Str × Int))).bind fun x385 => (atI x370 (0 : Int)).bind fun x389 => (atI x370 (1 : Int)).bind fun x390 => (M_l_is_merged x385 x389 x390).bind fun r391 => if (!r391) = true then inB (some (Tm.rt false)) else grd (s369.length < sizeLine) ((if x360 = true then some ([] : List (Str × Int)) else some x385).bind fun s395 => (atI x370 (0 : Int)).bind fun x396 => (M_l_same_values x375 x396).bind fun r397 => ((if (!r397) = true then some (true, ()) else (atI x370 (1 : Int)).bind fun x400 => (M_l_same_values x380 x400).bind fun r401 => some ((!r401), ()))).bind fun c402 => if c402.1 = true then inB (some (Tm.rt false)) else (if x360 = true then some (([] : List (Str × Int)), ([] : List (Str × Int))) else some (x380, x375)).bind fun s405 => some (Bo.nx (s369 ++ [x385])))).bind (boK (fun s371 => (atI s371 (3 : Int)).bind fun x372 => (atI s371 (0 : Int)).bind fun x373 => some (deq x372 x373)) id)) (s_let (i := 9) pBl sc_law.nd (x_kd (E := fun (b_ : (((((Unit × Unit) × (List Int)) × Unit) × (Int × (List Int))) × Unit)) => pBl (decide ((b_.1.2.1) = (0 : Int)))) (x_eqI (x_kd (E := fun (b_ : ((((Unit × Unit) × (List Int)) × Unit) × (Int × (List Int)))) => pInt b_.2.1) (x_TF_f (kk := 1) (E1 := (oL pInt)) (E2 := pInt) k_l_next (hr.mono (by decide)) g_l_next F_l_next.kp b_l_next (o_kd (E := fun (b_ : ((Unit × Unit) × (List Int))) => (oL pInt) b_.2) (x_FF_o (kk := 1) (E1 := (pS K)) (E2 := pInt) k_l_stream (hr.mono (by decide)) g_l_stream F_l_stream.kp b_l_stream (x_var (p := (pS K) a1) 0) (fun _ => x_int (i := 3)))) (fun _ vt_ Gt_  => x_int (i := 4)))) (fun _ => x_int (i := 0)))) fun (b361 : (((((Unit × Unit) × (List Int)) × Unit) × (Int × (List Int))) × Unit)) x360 => s_T (T := (some ([] : List (List (Str × Int)))).bind fun x362 => (atI x350 (0 : Int)).bind fun x366 => (atI x355 (1 : Int)).bind fun x367 => (forL ([x350, [x366, x367], x355, x350]) (x362 : (List (List (Str × Int)))) fun x370 s369 => (atI x370 (0 : Int)).bind fun x374 => (some (x374 : List (Str × Int))).bind fun x375 => (atI x370 (1 : Int)).bind fun x379 => (some (x379 : List (Str × Int))).bind fun x380 => (M_merged_fit x375 x380).bind fun r384 => (some (r384 : List (Str × Int))).bind fun x385 => (atI x370 (0 : Int)).bind fun x389 => (atI x370 (1 : Int)).bind fun x390 => (M_l_is_merged x385 x389 x390).bind fun r391 => if (!r391) = true then inB (some (Tm.rt false)) else grd (s369.length < sizeLine) ((if x360 = true then some ([] : List (Str × Int)) else some x385).bind fun s395 => (atI x370 (0 : Int)).bind fun x396 => (M_l_same_values x375 x396).bind fun r397 => ((if (!r397) = true then some (true, ()) else (atI x370 (1 : Int)).bind fun x400 => (M_l_same_values x380 x400).bind fun r401 => some ((!r401), ()))).bind fun c402 => if c402.1 = true then inB (some (Tm.rt false)) else (if x360 = true then some (([] : List (Str × Int)), ([] : List (Str × Int))) else some (x380, x375)).bind fun s405 => some (Bo.nx (s369 ++ [x385])))).bind (boK (fun s371 => (atI s371 (3 : Int)).bind fun x372 => (atI s371 (0 : Int)).bind fun x373 => some (deq x372 x373)) id)) (s_letO (i := 10) (oL (pM (κ := Str) pInt)) sc_law.nd (o_kd (E := fun (b_ : Unit) => (oL (pM (κ := Str) pInt)) ([])) (x_nil (pM (κ := Str) pInt))) fun (b363 : Unit) x362 v365 G364 => s_T (T := (atI x350 (0 : Int)).bind fun x366 => (atI x355 (1 : Int)).bind fun x367 => (forL ([x350, [x366, x367], x355, x350]) (x362 : (List (List (Str × Int)))) fun x370 s369 => (atI x370 (0 : Int)).bind fun x374 => (some (x374 : List (Str × Int))).bind fun x375 => (atI x370 (1 : Int)).bind fun x379 => (some (x379 : List (Str × Int))).bind fun x380 => (M_merged_fit x375 x380).bind fun r384 => (some (r384 : List (Str × Int))).bind fun x385 => (atI x370 (0 : Int)).bind fun x389 => (atI x370 (1 : Int)).bind fun x390 => (M_l_is_merged x385 x389 x390).bind fun r391 => if (!r391) = true then inB (some (Tm.rt false)) else grd (s369.length < sizeLine) ((if x360 = true then some ([] : List (Str × Int)) else some x385).bind fun s395 => (atI x370 (0 : Int)).bind fun x396 => (M_l_same_values x375 x396).bind fun r397 => ((if (!r397) = true then some (true, ()) else (atI x370 (1 : Int)).bind fun x400 => (M_l_same_values x380 x400).bind fun r401 => some ((!r401), ()))).bind fun c402 => if c402.1 = true then inB (some (Tm.rt false)) else (if x360 = true then some (([] : List (Str × Int)), ([] : List (Str × Int))) else some (x380, x375)).bind fun s405 => some (Bo.nx (s369 ++ [x385])))).bind (boK (fun s371 => (atI s371 (3 : Int)).bind fun x372 => (atI s371 (0 : Int)).bind fun x373 => some (deq x372 x373)) id)) (s_for PassesOwn.never (fun (b_ : (Unit × ((((Unit × Unit) × (List (Str × Int))) × (((Unit × Unit) × (List (Str × Int))) × Unit)) × (Unit × (Unit × Unit))))) (s_ : (List (List (Str × Int)))) => ([some ((pS K) a1), some (pV v326), some (pBl x328), some (pInt s334), some ((pL pStr) x336), some (pInt s343.1), some ((pL pInt) x345), some ((pL (pM (κ := Str) pInt)) x350), some ((pL (pM (κ := Str) pInt)) x355), some (pBl x360), some (pV v365), none, none, none, none], [⟨G364, v365, (oL (pM (κ := Str) pInt)) s_, false⟩, ⟨G325, v326, (oL pInt) b346.2.2, false⟩])) (fun (b_ : (Unit × ((((Unit × Unit) × (List (Str × Int))) × (((Unit × Unit) × (List (Str × Int))) × Unit)) × (Unit × (Unit × Unit))))) => x362) (ι := id) (R := (RF ⟨H, Mq⟩ (fun _ => []) pBl)) (i_list (x_kd (E := fun (b_ : (Unit × ((((Unit × Unit) × (List (Str × Int))) × (((Unit × Unit) × (List (Str × Int))) × Unit)) × (Unit × (Unit × Unit))))) => (pL (pL (pM (κ := Str) pInt))) ([x350, [b_.2.1.1.2, b_.2.1.2.1.2], x355, x350])) (x_frz (o_kd (E := fun (b_ : (Unit × ((((Unit × Unit) × (List (Str × Int))) × (((Unit × Unit) × (List (Str × Int))) × Unit)) × (Unit × (Unit × Unit))))) => (oL (pL (pM (κ := Str) pInt))) ([x350, [b_.2.1.1.2, b_.2.1.2.1.2], x355, x350])) (x_disp (pL (pM (κ := Str) pInt)) (fun _ => [_, _, _, _]) (a_cons (x_var (p := (pL (pM (κ := Str) pInt)) x350) 7) (fun _ => a_cons (x_kd (E := fun (b_ : (((Unit × Unit) × (List (Str × Int))) × (((Unit × Unit) × (List (Str × Int))) × Unit))) => (pL (pM (κ := Str) pInt)) ([b_.1.2, b_.2.1.2])) (x_frz (o_kd (E := fun (b_ : (((Unit × Unit) × (List (Str × Int))) × (((Unit × Unit) × (List (Str × Int))) × Unit))) => (oL (pM (κ := Str) pInt)) ([b_.1.2, b_.2.1.2])) (x_disp (pM (κ := Str) pInt) (fun _ => [_, _]) (a_cons (x_kd (E := fun (b_ : ((Unit × Unit) × (List (Str × Int)))) => (pM (κ := Str) pInt) b_.2) (x_ixL (Ee := (pM (κ := Str) pInt)) (x_var (p := (pL (pM (κ := Str) pInt)) x350) 7) (fun _ => x_int (i := 0)) (fun _ _ => rdF))) (fun _ => a_cons (x_kd (E := fun (b_ : ((Unit × Unit) × (List (Str × Int)))) => (pM (κ := Str) pInt) b_.2) (x_ixL (Ee := (pM (κ := Str) pInt)) (x_var (p := (pL (pM (κ := Str) pInt)) x355) 8) (fun _ => x_int (i := 1)) (fun _ _ => rdF))) (fun _ => a_nil))) (fun _ => rfl) (fun _ => by simp))))) (fun _ => a_cons (x_var (p := (pL (pM (κ := Str) pInt)) x355) 8) (fun _ => a_cons (x_var (p := (pL (pM (κ := Str) pInt)) x350) 7) (fun _ => a_nil))))) (fun _ => rfl) (fun _ => by simp)))))) (pg_name (i := 11) sc_law.nd rfl (by first | exact .inl rfl | exact .inr rfl)) (tg_name 11) (fun _ => ⟨rfl, rfl, rfl, rfl, rfl, rfl, rfl, rfl, rfl, rfl, rfl, trivial⟩) (fun _ => List.Sublist.refl _) (fun b368 x370 s369 => s_T (T := (atI x370 (0 : Int)).bind fun x374 => (some (x374 : List (Str × Int))).bind fun x375 => (atI x370 (1 : Int)).bind fun x379 => (some (x379 : List (Str × Int))).bind fun x380 => (M_merged_fit x375 x380).bind fun r384 => (some (r384 : List (Str × Int))).bind fun x385 => (atI x370 (0 : Int)).bind fun x389 => (atI x370 (1 : Int)).bind fun x390 => (M_l_is_merged x385 x389 x390).bind fun r391 => if (!r391) = true then inB (some (Tm.rt false)) else grd (s369.length < sizeLine) ((if x360 = true then some ([] : List (Str × Int)) else some x385).bind fun s395 => (atI x370 (0 : Int)).bind fun x396 => (M_l_same_values x375 x396).bind fun r397 => ((if (!r397) = true then some (true, ()) else (atI x370 (1 : Int)).bind fun x400 => (M_l_same_values x380 x400).bind fun r401 => some ((!r401), ()))).bind fun c402 => if c402.1 = true then inB (some (Tm.rt false)) else (if x360 = true then some (([] : List (Str × Int)), ([] : List (Str × Int))) else some (x380, x375)).bind fun s405 => some (Bo.nx (s369 ++ [x385])))) (s_letO (i := 12) (oM (κ := Str) pInt) sc_law.nd (o_kd (E := fun (b_ : ((Unit × Unit) × (List (Str × Int)))) => (oM (κ := Str) pInt) b_.2) (x_dictD (κ := Str) (Ee := pInt) m_dict (x_kd (E := fun (b_ : ((Unit × Unit) × (List (Str × Int)))) => (pM (κ := Str) pInt) b_.2) (x_ixL (Ee := (pM (κ := Str) pInt)) (x_var (p := (pL (pM (κ := Str) pInt)) x370) 11) (fun _ => x_int (i := 0)) (fun _ _ => rdF))) (fun _ => rdMF))) fun (b376 : ((Unit × Unit) × (List (Str × Int)))) x375 v378 G377 => s_T (T := (atI x370 (1 : Int)).bind fun x379 => (some (x379 : List (Str × Int))).bind fun x380 => (M_merged_fit x375 x380).bind fun r384 => (some (r384 : List (Str × Int))).bind fun x385 => (atI x370 (0 : Int)).bind fun x389 => (atI x370 (1 : Int)).bind fun x390 => (M_l_is_merged x385 x389 x390).bind fun r391 => if (!r391) = true then inB (some (Tm.rt false)) else grd (s369.length < sizeLine) ((if x360 = true then some ([] : List (Str × Int)) else some x385).bind fun s395 => (atI x370 (0 : Int)).bind fun x396 => (M_l_same_values x375 x396).bind fun r397 => ((if (!r397) = true then some (true, ()) else (atI x370 (1 : Int)).bind fun x400 => (M_l_same_values x380 x400).bind fun r401 => some ((!r401), ()))).bind fun c402 => if c402.1 = true then inB (some (Tm.rt false)) else (if x360 = true then some (([] : List (Str × Int)), ([] : List (Str × Int))) else some (x380, x375)).bind fun s405 => some (Bo.nx (s369 ++ [x385])))) (s_letO (i := 13) (oM (κ := Str) pInt) sc_law.nd (o_kd (E := fun (b_ : ((Unit × Unit) × (List (Str × Int)))) => (oM (κ := Str) pInt) b_.2) (x_dictD (κ := Str) (Ee := pInt) m_dict (x_kd (E := fun (b_ : ((Unit × Unit) × (List (Str × Int)))) => (pM (κ := Str) pInt) b_.2) (x_ixL (Ee := (pM (κ := Str) pInt)) (x_var (p := (pL (pM (κ := Str) pInt)) x370) 11) (fun _ => x_int (i := 1)) (fun _ _ => rdF))) (fun _ => rdMF))) fun (b381 : ((Unit × Unit) × (List (Str × Int)))) x380 v383 G382 => s_T (T := (M_merged_fit x375 x380).bind fun r384 => (some (r384 : List (Str × Int))).bind fun x385 => (atI x370 (0 : Int)).bind fun x389 => (atI x370 (1 : Int)).bind fun x390 => (M_l_is_merged x385 x389 x390).bind fun r391 => if (!r391) = true then inB (some (Tm.rt false)) else grd (s369.length < sizeLine) ((if x360 = true then some ([] : List (Str × Int)) else some x385).bind fun s395 => (atI x370 (0 : Int)).bind fun x396 => (M_l_same_values x375 x396).bind fun r397 => ((if (!r397) = true then some (true, ()) else (atI x370 (1 : Int)).bind fun x400 => (M_l_same_values x380 x400).bind fun r401 => some ((!r401), ()))).bind fun c402 => if c402.1 = true then inB (some (Tm.rt false)) else (if x360 = true then some (([] : List (Str × Int)), ([] : List (Str × Int))) else some (x380, x375)).bind fun s405 => some (Bo.nx (s369 ++ [x385])))) (s_letO (i := 14) (oM (κ := Str) pInt) sc_law.nd (o_kd (E := fun (b_ : ((Unit × Unit) × (List (Str × Int)))) => (oM (κ := Str) pInt) b_.2) (o_lockG (d := (oM (κ := Str) pInt) x375) 1 12 (foM feI) (o_lockG (d := (oM (κ := Str) pInt) x380) 0 13 (foM feI) (x_FF_o (kk := 3) (E1 := (pM (κ := Str) pInt)) (E2 := (pM (κ := Str) pInt)) k_merged_fit (hr.mono (by decide)) g_merged_fit F_merged_fit.kp b_merged_fit (x_var (p := (pM (κ := Str) pInt) x375) 12) (fun _ => x_var (p := (pM (κ := Str) pInt) x380) 13))))) fun (b386 : ((Unit × Unit) × (List (Str × Int)))) x385 v388 G387 => s_T (T := (atI x370 (0 : Int)).bind fun x389 => (atI x370 (1 : Int)).bind fun x390 => (M_l_is_merged x385 x389 x390).bind fun r391 => if (!r391) = true then inB (some (Tm.rt false)) else grd (s369.length < sizeLine) ((if x360 = true then some ([] : List (Str × Int)) else some x385).bind fun s395 => (atI x370 (0 : Int)).bind fun x396 => (M_l_same_values x375 x396).bind fun r397 => ((if (!r397) = true then some (true, ()) else (atI x370 (1 : Int)).bind fun x400 => (M_l_same_values x380 x400).bind fun r401 => some ((!r401), ()))).bind fun c402 => if c402.1 = true then inB (some (Tm.rt false)) else (if x360 = true then some (([] : List (Str × Int)), ([] : List (Str × Int))) else some (x380, x375)).bind fun s405 => some (Bo.nx (s369 ++ [x385])))) (s_ifB ins_T (t_kd (c := fun (b_ : ((Unit × (((Unit × Unit) × (List (Str × Int))) × ((Unit × Unit) × (List (Str × Int))))) × Bool)) => (!b_.2)) (t_not (t_kd (c := fun (b_ : ((Unit × (((Unit × Unit) × (List (Str × Int))) × ((Unit × Unit) × (List (Str × Int))))) × Bool)) => b_.2) (t_val (x_kd (E := fun (b_ : ((Unit × (((Unit × Unit) × (List (Str × Int))) × ((Unit × Unit) × (List (Str × Int))))) × Bool)) => pBl b_.2) (x_lockG (d := (oM (κ := Str) pInt) x385) 0 14 feBl (x_FFF_f (kk := 2) (E1 := (pM (κ := Str) pInt)) (E2 := (pM (κ := Str) pInt)) (E3 := (pM (κ := Str) pInt)) k_l_is_merged (hr.mono (by decide)) g_l_is_merged F_l_is_merged.kp b_l_is_merged (x_var (p := (pM (κ := Str) pInt) x385) 14) (fun _ => x_kd (E := fun (b_ : ((Unit × Unit) × (List (Str × Int)))) => (pM (κ := Str) pInt) b_.2) (x_ixL (Ee := (pM (κ := Str) pInt)) (x_var (p := (pL (pM (κ := Str) pInt)) x370) 11) (fun _ => x_int (i := 0)) (fun _ _ => rdF))) (fun _ _ => x_kd (E := fun (b_ : ((Unit × Unit) × (List (Str × Int)))) => (pM (κ := Str) pInt) b_.2) (x_ixL (Ee := (pM (κ := Str) pInt)) (x_var (p := (pL (pM (κ := Str) pInt)) x370) 11) (fun _ => x_int (i := 1)) (fun _ _ => rdF)))))))))) (fun (b392 : ((Unit × (((Unit × Unit) × (List (Str × Int))) × ((Unit × Unit) × (List (Str × Int))))) × Bool)) => s_T (T := some (Tm.rt false)) (s_ret (P := (fun _ => [])) (Rp := pBl) (ι := Tm.rt) (rv := fun (b : Unit) => false) (fun _ _ _ h => h) x_bl (fun _ => .cons _ (.cons _ (.cons _ (.cons _ (.cons _ (.slnil)))))))) fun (b392 : ((Unit × (((Unit × Unit) × (List (Str × Int))) × ((Unit × Unit) × (List (Str × Int))))) × Bool)) => s_T (T := grd (s369.length < sizeLine) ((if x360 = true then some ([] : List (Str × Int)) else some x385).bind fun s395 => (atI x370 (0 : Int)).bind fun x396 => (M_l_same_values x375 x396).bind fun r397 => ((if (!r397) = true then some (true, ()) else (atI x370 (1 : Int)).bind fun x400 => (M_l_same_values x380 x400).bind fun r401 => some ((!r401), ()))).bind fun c402 => if c402.1 = true then inB (some (Tm.rt false)) else (if x360 = true then some (([] : List (Str × Int)), ([] : List (Str × Int))) else some (x380, x375)).bind fun s405 => some (Bo.nx (s369 ++ [x385])))) (s_expr (x_app 3 (x_var (p := pV v365) 10) (fun _ => x_kd (E := fun (b_ : Unit) => (pM (κ := Str) pInt) x385) (x_frz (o_kd (E := fun (b_ : Unit) => (oM (κ := Str) pInt) x385) (x_dictD (κ := Str) (Ee := pInt) m_dict (x_var (p := pV v388) 14) (fun _ => rdMO 0))))) (fun _ => rfl) (fun _ _ => rfl) (hw_of 3)) fun (b393 : (Unit × Unit)) => s_T (T := (if x360 = true then some ([] : List (Str × Int)) else some x385).bind fun s395 => (atI x370 (0 : Int)).bind fun x396 => (M_l_same_values x375 x396).bind fun r397 => ((if (!r397) = true then some (true, ()) else (atI x370 (1 : Int)).bind fun x400 => (M_l_same_values x380 x400).bind fun r401 => some ((!r401), ()))).bind fun c402 => if c402.1 = true then inB (some (Tm.rt false)) else (if x360 = true then some (([] : List (Str × Int)), ([] : List (Str × Int))) else some (x380, x375)).bind fun s405 => some (Bo.nx (s369 ++ [x385]))) (s_ifN (C := fun s_ : (List (Str × Int)) => ([some ((pS K) a1), some (pV v326), some (pBl x328), some (pInt s334), some ((pL pStr) x336), some (pInt s343.1), some ((pL pInt) x345), some ((pL (pM (κ := Str) pInt)) x350), some ((pL (pM (κ := Str) pInt)) x355), some (pBl x360), some (pV v365), some ((pL (pM (κ := Str) pInt)) x370), some (pV v378), some (pV v383), some (pV v388)], [⟨G387, v388, (oM (κ := Str) pInt) s_, false⟩, ⟨G382, v383, (oM (κ := Str) pInt) x380, false⟩, ⟨G377, v378, (oM (κ := Str) pInt) x375, false⟩, ⟨G364, v365, (oL (pM (κ := Str) pInt)) (s369 ++ [x385]), false⟩, ⟨G325, v326, (oL pInt) b346.2.2, false⟩])) (t_kd (c := fun (b_ : Unit) => x360) (t_val (x_var (p := pBl x360) 9))) (fun (b394 : Unit) => s_T (T := some ([] : List (Str × Int))) (s_expr (x_dclear (κ := Str) (Ee := pInt) 0 (x_var (p := pV v388) 14) (fun _ => rfl) (hw_of 0)) fun (b408 : Unit) => s_end ([] : List (Str × Int)) rfl ⟨rfl, rfl, rfl, rfl, rfl, rfl, rfl, rfl, rfl, rfl, rfl, rfl, rfl, rfl, rfl, trivial⟩ (List.Sublist.refl _))) (fun (b394 : Unit) => s_end x385 rfl ⟨rfl, rfl, rfl, rfl, rfl, rfl, rfl, rfl, rfl, rfl, rfl, rfl, rfl, rfl, rfl, trivial⟩ (List.Sublist.refl _)) fun (b394 : Unit) s395 => s_T (T := (atI x370 (0 : Int)).bind fun x396 => (M_l_same_values x375 x396).bind fun r397 => ((if (!r397) = true then some (true, ()) else (atI x370 (1 : Int)).bind fun x400 => (M_l_same_values x380 x400).bind fun r401 => some ((!r401), ()))).bind fun c402 => if c402.1 = true then inB (some (Tm.rt false)) else (if x360 = true then some (([] : List (Str × Int)), ([] : List (Str × Int))) else some (x380, x375)).bind fun s405 => some (Bo.nx (s369 ++ [x385]))) (s_ifB ins_T (t_kd (c := fun (b_ : (((Unit × ((Unit × Unit) × (List (Str × Int)))) × Bool) × (Bool × Unit))) => b_.2.1) (PW.pt (w_orM (ΔS := fun (b_ : ((Unit × ((Unit × Unit) × (List (Str × Int)))) × Bool)) (s_ : Unit) => [⟨G387, v388, (oM (κ := Str) pInt) s395, false⟩, ⟨G382, v383, (oM (κ := Str) pInt) x380, false⟩, ⟨G377, v378, (oM (κ := Str) pInt) x375, false⟩, ⟨G364, v365, (oL (pM (κ := Str) pInt)) (s369 ++ [x385]), false⟩, ⟨G325, v326, (oL pInt) b346.2.2, false⟩]) (s1 := fun (b_ : ((Unit × ((Unit × Unit) × (List (Str × Int)))) × Bool)) => ()) (s2 := fun (b_ : ((Unit × ((Unit × Unit) × (List (Str × Int)))) × Bool)) (c_ : ((Unit × ((Unit × Unit) × (List (Str × Int)))) × Bool)) => ()) (t_kd (c := fun (b_ : ((Unit × ((Unit × Unit) × (List (Str × Int)))) × Bool)) => (!b_.2)) (t_not (t_kd (c := fun (b_ : ((Unit × ((Unit × Unit) × (List (Str × Int)))) × Bool)) => b_.2) (t_val (x_kd (E := fun (b_ : ((Unit × ((Unit × Unit) × (List (Str × Int)))) × Bool)) => pBl b_.2) (x_lockG (d := (oM (κ := Str) pInt) x375) 2 12 feBl (x_FF_f (kk := 2) (E1 := (pM (κ := Str) pInt)) (E2 := (pM (κ := Str) pInt)) k_l_same_values (hr.mono (by decide)) g_l_same_values F_l_same_values.kp b_l_same_values (x_var (p := (pM (κ := Str) pInt) x375) 12) (fun _ => x_kd (E := fun (b_ : ((Unit × Unit) × (List (Str × Int)))) => (pM (κ := Str) pInt) b_.2) (x_ixL (Ee := (pM (κ := Str) pInt)) (x_var (p := (pL (pM (κ := Str) pInt)) x370) 11) (fun _ => x_int (i := 0)) (fun _ _ => rdF)))))))))) (fun _ => w_or1 (t_kd (c := fun (b_ : ((Unit × ((Unit × Unit) × (List (Str × Int)))) × Bool)) => (!b_.2)) (t_not (t_kd (c := fun (b_ : ((Unit × ((Unit × Unit) × (List (Str × Int)))) × Bool)) => b_.2) (t_val (x_kd (E := fun (b_ : ((Unit × ((Unit × Unit) × (List (Str × Int)))) × Bool)) => pBl b_.2) (x_lockG (d := (oM (κ := Str) pInt) x380) 1 13 feBl (x_FF_f (kk := 2) (E1 := (pM (κ := Str) pInt)) (E2 := (pM (κ := Str) pInt)) k_l_same_values (hr.mono (by decide)) g_l_same_values F_l_same_values.kp b_l_same_values (x_var (p := (pM (κ := Str) pInt) x380) 13) (fun _ => x_kd (E := fun (b_ : ((Unit × Unit) × (List (Str × Int)))) => (pM (κ := Str) pInt) b_.2) (x_ixL (Ee := (pM (κ := Str) pInt)) (x_var (p := (pL (pM (κ := Str) pInt)) x370) 11) (fun _ => x_int (i := 1)) (fun _ _ => rdF))))))))))) (fun _ => rfl) (fun _ _ => rfl)))) (fun (b403 : (((Unit × ((Unit × Unit) × (List (Str × Int)))) × Bool) × (Bool × Unit))) => s_T (T := some (Tm.rt false)) (s_ret (P := (fun _ => [])) (Rp := pBl) (ι := Tm.rt) (rv := fun (b : Unit) => false) (fun _ _ _ h => h) x_bl (fun _ => .cons _ (.cons _ (.cons _ (.cons _ (.cons _ (.slnil)))))))) fun (b403 : (((Unit × ((Unit × Unit) × (List (Str × Int)))) × Bool) × (Bool × Unit))) => s_T (T := (if x360 = true then some (([] : List (Str × Int)), ([] : List (Str × Int))) else some (x380, x375)).bind fun s405 => some (Bo.nx (s369 ++ [x385]))) (s_ifN (C := fun s_ : (List (Str × Int)) × (List (Str × Int)) => ([some ((pS K) a1), some (pV v326), some (pBl x328), some (pInt s334), some ((pL pStr) x336), some (pInt s343.1), some ((pL pInt) x345), some ((pL (pM (κ := Str) pInt)) x350), some ((pL (pM (κ := Str) pInt)) x355), some (pBl x360), some (pV v365), some ((pL (pM (κ := Str) pInt)) x370), some (pV v378), some (pV v383), some (pV v388)], [⟨G387, v388, (oM (κ := Str) pInt) s395, false⟩, ⟨G382, v383, (oM (κ := Str) pInt) s_.1, false⟩, ⟨G377, v378, (oM (κ := Str) pInt) s_.2, false⟩, ⟨G364, v365, (oL (pM (κ := Str) pInt)) (s369 ++ [x385]), false⟩, ⟨G325, v326, (oL pInt) b346.2.2, false⟩])) (t_kd (c := fun (b_ : Unit) => x360) (t_val (x_var (p := pBl x360) 9))) (fun (b404 : Unit) => s_T (T := some (([] : List (Str × Int)), ([] : List (Str × Int)))) (s_expr (x_dclear (κ := Str) (Ee := pInt) 2 (x_var (p := pV v378) 12) (fun _ => rfl) (hw_of 2)) fun (b406 : Unit) => s_T (T := some (([] : List (Str × Int)), ([] : List (Str × Int)))) (s_expr (x_dclear (κ := Str) (Ee := pInt) 1 (x_var (p := pV v383) 13) (fun _ => rfl) (hw_of 1)) fun (b407 : Unit) => s_end (([] : List (Str × Int)), ([] : List (Str × Int))) rfl ⟨rfl, rfl, rfl, rfl, rfl, rfl, rfl, rfl, rfl, rfl, rfl, rfl, rfl, rfl, rfl, trivial⟩ (List.Sublist.refl _)))) (fun (b404 : Unit) => s_end (x380, x375) rfl ⟨rfl, rfl, rfl, rfl, rfl, rfl, rfl, rfl, rfl, rfl, rfl, rfl, rfl, rfl, rfl, trivial⟩ (List.Sublist.refl _)) fun (b404 : Unit) s405 => s_endB (s369 ++ [x385]) ⟨rfl, rfl, rfl, rfl, rfl, rfl, rfl, rfl, rfl, rfl, rfl, trivial⟩ (.cons _ (.cons _ (.cons _ (.cons₂ _ (.cons₂ _ (.slnil))))))))))))))) (fun b368 s371 => s_T (T := (atI s371 (3 : Int)).bind fun x372 => (atI s371 (0 : Int)).bind fun x373 => some (deq x372 x373)) (s_frz (i := 10) (c := ⟨G364, v365, (oL (pM (κ := Str) pInt)) s371, false⟩) 0 (s_ret (P := (fun _ => [])) (Rp := pBl) (ι := id) (rv := fun (b : (((Unit × Unit) × (List (Str × Int))) × ((Unit × Unit) × (List (Str × Int))))) => (deq b.1.2 b.2.2)) (fun _ _ _ h => h) (x_kd (x_kd (E := fun (b_ : (((Unit × Unit) × (List (Str × Int))) × ((Unit × Unit) × (List (Str × Int))))) => pBl (deq b_.1.2 b_.2.2)) (x_eqM (κ := Str) (room66 hr) dtInt (x_kd (E := fun (b_ : ((Unit × Unit) × (List (Str × Int)))) => (pM (κ := Str) pInt) b_.2) (x_ixL (Ee := (pM (κ := Str) pInt)) (x_var (p := (pL (pM (κ := Str) pInt)) s371) 10) (fun _ => x_int (i := 3)) (fun _ _ => rdF))) (fun _ => x_kd (E := fun (b_ : ((Unit × Unit) × (List (Str × Int)))) => (pM (κ := Str) pInt) b_.2) (x_ixL (Ee := (pM (κ := Str) pInt)) (x_var (p := (pL (pM (κ := Str) pInt)) s371) 10) (fun _ => x_int (i := 0)) (fun _ _ => rdF))) (fun _ _ => rdMF) (fun _ _ => rdMF)))) (fun _ => .cons _ (.slnil))))) (fun _ _ _ h => h))))))))))))))) (by unfold M_law; rfl)
end
end My
end
section
set_option Elab.async false
set_option linter.all false
set_option maxRecDepth 100000
namespace My
open PySem PySem.Spec PyProof.Rows L2 L3
/-! plain kit: an Option that is there, and what holds of it -/
def Wp {α : Type} (m : Option α) (Q : α → Prop) : Prop := ∃ a, m = some a ∧ Q a
section
variable {α β γ S ρ δ : Type}
theorem wp_some {a : α} {Q : α → Prop} (h : Q a) : Wp (some a) Q := ⟨a, rfl, h⟩
theorem wp_bind {m : Option α} {k : α → Option β} {Q : β → Prop} (h : Wp m fun a => Wp (k a) Q) : Wp (m.bind k) Q := by
  obtain ⟨a, e, b, e2, q⟩ := h
  exact ⟨b, by rw [e]; exact e2, q⟩
theorem wp_mono {m : Option α} {Q R : α → Prop} (h : Wp m Q) (f : ∀ a, Q a → R a) : Wp m R := by
  obtain ⟨a, e, q⟩ := h
  exact ⟨a, e, f a q⟩
/-- m's spec, then the rest -/
theorem wp_then {m : Option α} {k : α → Option β} {P : α → Prop} {Q : β → Prop} (h : Wp m P) (f : ∀ a, P a → Wp (k a) Q) : Wp (m.bind k) Q := wp_bind (wp_mono h f)
theorem wp_eq {m : Option α} {k : α → Option β} {a : α} {Q : β → Prop} (h : m = some a) (f : Wp (k a) Q) : Wp (m.bind k) Q := wp_bind ⟨a, h, f⟩
theorem wp_grd {c : Prop} [Decidable c] {m : Option α} {Q : α → Prop} (h : c) (f : Wp m Q) : Wp (grd c m) Q := by
  unfold grd
  rw [if_pos h]
  exact f
theorem wp_ite {c : Prop} [Decidable c] {m n : Option α} {Q : α → Prop} (h : c → Wp m Q) (f : ¬ c → Wp n Q) : Wp (if c then m else n) Q := by
  by_cases x : c
  · rw [if_pos x]; exact h x
  · rw [if_neg x]; exact f x
theorem wp_is {m : Option α} {a : α} (h : Wp m fun x => x = a) : m = some a := by
  obtain ⟨b, e, q⟩ := h
  rw [e, q]
theorem wp_of {m : Option α} {a : α} {Q : α → Prop} (h : m = some a) (q : Q a) : Wp m Q := ⟨a, h, q⟩
theorem gp {γ : Type} {c : Prop} [Decidable c] {x : Option γ} (h : c) : grd c x = x := if_pos h
/-- a loop: I of what has been walked -/
theorem wp_forS {f : α → S → Option S} {Q : S → Prop} (I : List α → S → Prop) : ∀ {xs : List α} {pre : List α} {s : S}, I pre s → (∀ p x t s, pre ++ xs = p ++ x :: t → I p s → Wp (f x s) (I (p ++ [x]))) → (∀ s, I (pre ++ xs) s → Q s) → Wp (forS xs s f) Q
  | [], pre, s, h0, _, hq => ⟨s, rfl, hq s (by simpa using h0)⟩
  | x :: xs, pre, s, h0, hs, hq => by
    obtain ⟨s1, e1, i1⟩ := hs pre x xs s rfl h0
    have ih := wp_forS (f := f) (Q := Q) I (xs := xs) (pre := pre ++ [x]) (s := s1) i1 (fun p y t s e => hs p y t s (by rw [← e]; simp)) (fun s hi => hq s (by simpa using hi))
    show Wp ((f x s).bind fun s' => forS xs s' f) Q
    exact wp_eq e1 ih
theorem wp_for {f : α → S → Option S} {Q : S → Prop} {xs : List α} {s : S} (I : List α → S → Prop) (h0 : I [] s) (hs : ∀ p x t s, xs = p ++ x :: t → I p s → Wp (f x s) (I (p ++ [x]))) (hq : ∀ s, I xs s → Q s) : Wp (forS xs s f) Q :=
  wp_forS (pre := []) I h0 (fun p x t s e => hs p x t s e) (fun s h => hq s h)
/-- .. that may end early: B what holds at a break, R what is returned -/
theorem wp_forLG {f : α → S → Option (Bo S (Tm S ρ))} {Q : Bo S ρ → Prop} (I : List α → S → Prop) : ∀ {xs : List α} {pre : List α} {s : S}, I pre s →
    (∀ p x t s, pre ++ xs = p ++ x :: t → I p s → Wp (f x s) fun o => match o with | .nx s' => I (p ++ [x]) s' | .tm (.ct s') => I (p ++ [x]) s' | .tm (.bk s') => Q (.nx s') | .tm (.rt r) => Q (.tm r)) → (∀ s, I (pre ++ xs) s → Q (.nx s)) → Wp (forL xs s f) Q
  | [], pre, s, h0, _, hq => ⟨.nx s, rfl, hq s (by simpa using h0)⟩
  | x :: xs, pre, s, h0, hs, hq => by
    obtain ⟨o, e1, i1⟩ := hs pre x xs s rfl h0
    have go : ∀ s1, I (pre ++ [x]) s1 → Wp (forL xs s1 f) Q := fun s1 i1 => wp_forLG I (xs := xs) (pre := pre ++ [x]) (s := s1) i1 (fun p y t s e => hs p y t s (by rw [← e]; simp)) (fun s hi => hq s (by simpa using hi))
    show Wp ((f x s).bind _) Q
    refine wp_eq e1 ?_
    match o, i1 with
    | .nx s', i1 => exact go s' i1
    | .tm (.ct s'), i1 => exact go s' i1
    | .tm (.bk s'), i1 => exact ⟨_, rfl, i1⟩
    | .tm (.rt r), i1 => exact ⟨_, rfl, i1⟩
theorem wp_forL {f : α → S → Option (Bo S (Tm S ρ))} {Q : Bo S ρ → Prop} {xs : List α} {s : S} (I : List α → S → Prop) (h0 : I [] s)
    (hs : ∀ p x t s, xs = p ++ x :: t → I p s → Wp (f x s) fun o => match o with | .nx s' => I (p ++ [x]) s' | .tm (.ct s') => I (p ++ [x]) s' | .tm (.bk s') => Q (.nx s') | .tm (.rt r) => Q (.tm r)) (hq : ∀ s, I xs s → Q (.nx s)) : Wp (forL xs s f) Q :=
  wp_forLG (pre := []) I h0 (fun p x t s e => hs p x t s e) (fun s h => hq s h)
/-- a comprehension without effects -/
theorem compM_pure {f : α → S → Option (Option δ × S)} {g : α → Option δ} {s : S} : ∀ {xs : List α}, (∀ x ∈ xs, f x s = some (g x, s)) → compM xs s f = some (xs.filterMap g, s)
  | [], _ => rfl
  | x :: xs, h => by
    have ih := compM_pure (f := f) (g := g) (s := s) (xs := xs) fun y hy => h y (List.mem_cons_of_mem _ hy)
    unfold compM
    rw [h x List.mem_cons_self]
    simp only [Option.bind_some]
    rw [ih]
    simp only [Option.bind_some, List.filterMap_cons]
    cases g x <;> rfl
theorem filterMap_some {α δ : Type} {g : α → δ} : ∀ xs : List α, xs.filterMap (fun x => some (g x)) = xs.map g
  | [] => rfl
  | x :: xs => by rw [List.filterMap_cons]; simp [filterMap_some xs]
/-- .. with effects -/
theorem wp_compM {f : α → S → Option (Option δ × S)} {Q : List δ × S → Prop} (I : List α → List δ → S → Prop) : ∀ {xs : List α} {pre : List α} {out : List δ} {s : S}, I pre out s → (∀ p x t o s, pre ++ xs = p ++ x :: t → I p o s → Wp (f x s) fun r => I (p ++ [x]) (o ++ r.1.toList) r.2) → (∀ r : List δ × S, I (pre ++ xs) (out ++ r.1) r.2 → Q r) → Wp (compM xs s f) Q
  | [], pre, out, s, h0, _, hq => ⟨([], s), rfl, hq ([], s) (by simpa using h0)⟩
  | x :: xs, pre, out, s, h0, hs, hq => by
    obtain ⟨⟨o1, s1⟩, e1, i1⟩ := hs pre x xs out s rfl h0
    obtain ⟨r, e2, q2⟩ := wp_compM (f := f) (Q := fun r => Q (o1.toList ++ r.1, r.2)) I (xs := xs) (pre := pre ++ [x]) (out := out ++ o1.toList) (s := s1) i1 (fun p y t o s e => hs p y t o s (by rw [← e]; simp)) (fun r hi => hq (o1.toList ++ r.1, r.2) (by simpa using hi))
    refine ⟨(o1.toList ++ r.1, r.2), ?_, q2⟩
    unfold compM
    rw [e1]
    simp only [Option.bind_some]
    rw [e2]
    cases o1 <;> rfl
/-- .. one for each, with P -/
theorem wp_compA {f : α → S → Option (Option δ × S)} {Q : List δ × S → Prop} {xs : List α} {s : S} (J : S → Prop) (P : δ → Prop) (h0 : J s) (hs : ∀ x ∈ xs, ∀ s, J s → Wp (f x s) fun r => ∃ y, r.1 = some y ∧ P y ∧ J r.2) (hq : ∀ ys s, ys.length = xs.length → (∀ y ∈ ys, P y) → J s → Q (ys, s)) : Wp (compM xs s f) Q :=
  wp_compM (fun p o s => o.length = p.length ∧ (∀ y ∈ o, P y) ∧ J s) (pre := []) (out := []) ⟨rfl, (fun _ h => absurd h List.not_mem_nil), h0⟩ (fun p x t o s e ⟨hl, hp, hj⟩ => wp_mono (hs x (by rw [show xs = p ++ x :: t from e]; simp) s hj) fun r ⟨y, e1, e2, e3⟩ => ⟨by rw [e1]; simp [hl], fun z hz => by
    rw [e1] at hz
    rcases List.mem_append.mp hz with h | h
    · exact hp z h
    · simp at h; subst h; exact e2, e3⟩) fun r ⟨hl, hp, hj⟩ => hq r.1 r.2 hl hp hj
/-- .. some of them, with P -/
theorem wp_compF {f : α → S → Option (Option δ × S)} {Q : List δ × S → Prop} {xs : List α} {s : S} (J : S → Prop) (P : δ → Prop) (h0 : J s) (hs : ∀ x ∈ xs, ∀ s, J s → Wp (f x s) fun r => (∀ y, r.1 = some y → P y) ∧ J r.2) (hq : ∀ ys s, ys.length ≤ xs.length → (∀ y ∈ ys, P y) → J s → Q (ys, s)) : Wp (compM xs s f) Q :=
  wp_compM (fun p o s => o.length ≤ p.length ∧ (∀ y ∈ o, P y) ∧ J s) (pre := []) (out := []) ⟨Nat.le_refl _, (fun _ h => absurd h List.not_mem_nil), h0⟩ (fun p x t o s e ⟨hl, hp, hj⟩ => wp_mono (hs x (by rw [show xs = p ++ x :: t from e]; simp) s hj) fun r ⟨e2, e3⟩ => ⟨by
    cases h : r.1 <;> simp <;> omega, fun z hz => by
    rcases List.mem_append.mp hz with h | h
    · exact hp z h
    · cases h1 : r.1 with
      | none => rw [h1] at h; simp at h
      | some y => rw [h1] at h; simp at h; subst h; exact e2 _ h1, e3⟩) fun r ⟨hl, hp, hj⟩ => hq r.1 r.2 hl hp hj
/-- a while, by a measure -/
theorem wp_whL {f : S → Option (Option (Bo S (Tm S ρ)))} {Q : Bo S ρ → Prop} (I : S → Prop) (μ : S → Nat) : ∀ {n : Nat} {s : S}, I s → μ s < n →
    (∀ s, I s → Wp (f s) fun o => match o with | none => Q (.nx s) | some (.nx s') => I s' ∧ μ s' < μ s | some (.tm (.ct s')) => I s' ∧ μ s' < μ s | some (.tm (.bk s')) => Q (.nx s') | some (.tm (.rt r)) => Q (.tm r)) → Wp (whL n f s) Q
  | 0, s, _, h, _ => absurd h (Nat.not_lt_zero _)
  | n + 1, s, h0, hm, hs => by
    obtain ⟨o, e1, i1⟩ := hs s h0
    show Wp ((f s).bind _) Q
    refine wp_eq e1 ?_
    match o, i1 with
    | none, i1 => exact ⟨_, rfl, i1⟩
    | some (.nx s'), i1 => exact wp_whL I μ i1.1 (by omega) hs
    | some (.tm (.ct s')), i1 => exact wp_whL I μ i1.1 (by omega) hs
    | some (.tm (.bk s')), i1 => exact ⟨_, rfl, i1⟩
    | some (.tm (.rt r)), i1 => exact ⟨_, rfl, i1⟩
end
theorem sz : sizeLine = 16777216 := rfl
theorem sb : scanBound = 4096 := rfl
/-! indices -/
theorem atI_get {α : Type} {xs : List α} {i : Int} (h0 : 0 ≤ i) (h : i.toNat < xs.length) : atI xs i = some (xs[i.toNat]'h) := by
  unfold atI ixN
  rw [if_pos h0, if_pos (by omega)]
  simp [List.getElem?_eq_getElem h]
theorem wp_at {α : Type} {xs : List α} {i : Int} {Q : α → Prop} (h0 : 0 ≤ i) (h : i < xs.length) (q : ∀ x, x ∈ xs → xs[i.toNat]? = some x → Q x) : Wp (atI xs i) Q :=
  ⟨_, atI_get h0 (by omega), q _ (List.getElem_mem _) (List.getElem?_eq_getElem (by omega))⟩
theorem atI_last {α : Type} {s : List α} {y : α} : atI (s ++ [y]) (-(1 : Int)) = some y := by
  unfold atI ixN
  rw [if_neg (by decide), if_pos (by rw [List.length_append]; simp only [List.length_singleton]; omega)]
  simp only [Option.bind_some]
  rw [List.length_append, List.length_singleton, show ((-1 : Int) + ((s.length + 1 : Nat) : Int)).toNat = s.length by omega]
  simp
theorem rngL_mem {lo : Int} {n : Nat} {x : Int} : x ∈ rngL lo n ↔ lo ≤ x ∧ x < lo + n := by
  unfold rngL
  simp only [List.mem_map, List.mem_range]
  constructor
  · rintro ⟨i, h, rfl⟩; omega
  · intro h; exact ⟨(x - lo).toNat, by omega, by omega⟩
theorem mem_split {α : Type} {xs p t : List α} {x : α} (h : xs = p ++ x :: t) : x ∈ xs := by rw [h]; simp
theorem rngL_split {lo : Int} {n : Nat} {p t : List Int} {x : Int} (h : rngL lo n = p ++ x :: t) : x = lo + p.length ∧ p.length < n := by
  have hl := congrArg List.length h
  rw [rngL_len, List.length_append, List.length_cons] at hl
  have e := congrArg (fun l => l[p.length]?) h
  simp only [List.getElem?_append_right (Nat.le_refl _), Nat.sub_self, List.getElem?_cons_zero] at e
  unfold rngL at e
  rw [List.getElem?_map, List.getElem?_range (by omega)] at e
  simp only [Option.map_some, Option.some.injEq] at e
  exact ⟨e.symm, by omega⟩
/-! lists -/
theorem sub_len {α : Type} [DecidableEq α] : ∀ {xs ys : List α}, xs.Nodup → (∀ x ∈ xs, x ∈ ys) → xs.length ≤ ys.length
  | [], _, _, _ => Nat.zero_le _
  | x :: xs, ys, nd, h => by
    rw [List.nodup_cons] at nd
    have hx := h x List.mem_cons_self
    have := sub_len (xs := xs) (ys := ys.erase x) nd.2 (fun y hy => (List.mem_erase_of_ne (fun e => nd.1 (by rw [← e]; exact hy))).mpr (h y (List.mem_cons_of_mem _ hy)))
    rw [List.length_erase_of_mem hx] at this
    have := List.length_pos_of_mem hx
    rw [List.length_cons]
    omega
theorem filter_lt {α : Type} {p q : α → Bool} : ∀ {l : List α}, (∀ x ∈ l, q x = true → p x = true) → (∃ x ∈ l, p x = true ∧ q x = false) → (l.filter q).length < (l.filter p).length
  | [], _, ⟨_, h, _⟩ => nomatch h
  | x :: l, h, ⟨y, hy, h1, h2⟩ => by
    have hle : ∀ {l : List α}, (∀ x ∈ l, q x = true → p x = true) → (l.filter q).length ≤ (l.filter p).length := fun {l} h => by
      rw [← List.countP_eq_length_filter, ← List.countP_eq_length_filter]
      exact List.countP_mono_left h
    have ht : ∀ z ∈ l, q z = true → p z = true := fun z hz => h z (List.mem_cons_of_mem _ hz)
    rw [List.filter_cons, List.filter_cons]
    rcases List.mem_cons.mp hy with e | hy
    · subst e
      rw [h1, h2]
      simp only [if_pos, Bool.false_eq_true, if_false, List.length_cons]
      have := hle ht
      omega
    · have ih := filter_lt ht ⟨y, hy, h1, h2⟩
      have hx := h x List.mem_cons_self
      cases hq : q x <;> cases hp : p x
      · simpa using ih
      · simp; omega
      · rw [hx hq] at hp; cases hp
      · simp; omega
end My
end
section
set_option Elab.async false
set_option linter.all false
set_option maxRecDepth 100000
namespace My
open PySem PySem.Spec PyProof.Rows L2 L3
/-! dicts -/
section
variable {κ α : Type} [DecidableEq κ]
abbrev keys (d : List (κ × α)) : List κ := d.map Prod.fst
theorem dget_nil {k : κ} : dget ([] : List (κ × α)) k = none := rfl
theorem dget_cons {p : κ × α} {d : List (κ × α)} {k : κ} : dget (p :: d) k = if p.1 = k then some p.2 else dget d k := by
  by_cases h : p.1 = k
  · rw [if_pos h, dget_pos h]
  · rw [if_neg h, dget_neg h]
theorem dget_none {k : κ} : ∀ {d : List (κ × α)}, dget d k = none ↔ k ∉ keys d
  | [] => by simp [dget_nil]
  | p :: d => by
    rw [dget_cons]
    show _ ↔ k ∉ p.1 :: keys d
    rw [List.mem_cons]
    by_cases h : p.1 = k
    · rw [if_pos h]; simp [h]
    · rw [if_neg h, dget_none]
      simp only [not_or]
      exact ⟨fun x => ⟨fun e => h e.symm, x⟩, fun x => x.2⟩
theorem dget_some {k : κ} {d : List (κ × α)} (h : k ∈ keys d) : ∃ v, dget d k = some v := by
  cases e : dget d k with
  | none => exact absurd h (dget_none.mp e)
  | some v => exact ⟨v, rfl⟩
theorem dget_key {k : κ} {d : List (κ × α)} {v : α} (h : dget d k = some v) : k ∈ keys d := by
  by_cases x : k ∈ keys d
  · exact x
  · rw [dget_none.mpr x] at h; cases h
theorem dget_mem {k : κ} {v : α} : ∀ {d : List (κ × α)}, dget d k = some v → (k, v) ∈ d
  | [], h => by rw [dget_nil] at h; cases h
  | p :: d, h => by
    rw [dget_cons] at h
    by_cases e : p.1 = k
    · rw [if_pos e] at h; cases h; subst e; exact List.mem_cons_self
    · rw [if_neg e] at h; exact List.mem_cons_of_mem _ (dget_mem h)
theorem mem_dget {k : κ} {v : α} : ∀ {d : List (κ × α)}, (keys d).Nodup → (k, v) ∈ d → dget d k = some v
  | [], _, h => nomatch h
  | p :: d, nd, h => by
    have nd : (p.1 :: keys d).Nodup := nd
    rw [List.nodup_cons] at nd
    rw [dget_cons]
    rcases List.mem_cons.mp h with e | h
    · subst e; rw [if_pos rfl]
    · rw [if_neg (fun e => nd.1 (by rw [e]; exact List.mem_map.mpr ⟨(k, v), h, rfl⟩))]
      exact mem_dget nd.2 h
theorem dhas_iff {k : κ} {d : List (κ × α)} : dhas d k = true ↔ k ∈ keys d := by
  unfold dhas
  rw [List.any_eq_true, List.mem_map]
  simp only [decide_eq_true_eq]
theorem dhas_not {k : κ} {d : List (κ × α)} : dhas d k = false ↔ k ∉ keys d := by
  rw [← dhas_iff]; simp
theorem dput_old {d : List (κ × α)} {k : κ} {v : α} (h : k ∈ keys d) : dput d k v = d.map (fun p => if p.1 = k then (p.1, v) else p) := by
  have := dhas_iff.mpr h
  unfold dhas at this
  unfold dput
  rw [if_pos this]
theorem dput_new {d : List (κ × α)} {k : κ} {v : α} (h : k ∉ keys d) : dput d k v = d ++ [(k, v)] := by
  have := dhas_not.mpr h
  unfold dhas at this
  unfold dput
  rw [if_neg (by rw [this]; decide)]
theorem keys_put_old {d : List (κ × α)} {k : κ} {v : α} (h : k ∈ keys d) : keys (dput d k v) = keys d := by
  rw [dput_old h]
  unfold keys
  rw [List.map_map]
  apply List.map_congr_left
  intro p _
  simp only [Function.comp]
  split <;> rfl
theorem keys_put_new {d : List (κ × α)} {k : κ} {v : α} (h : k ∉ keys d) : keys (dput d k v) = keys d ++ [k] := by
  rw [dput_new h]; unfold keys; rw [List.map_append]; rfl
theorem mem_keys_put {d : List (κ × α)} {k j : κ} {v : α} : j ∈ keys (dput d k v) ↔ j ∈ keys d ∨ j = k := by
  by_cases h : k ∈ keys d
  · rw [keys_put_old h]
    exact ⟨.inl, fun x => x.elim id fun e => by rw [e]; exact h⟩
  · rw [keys_put_new h, List.mem_append, List.mem_singleton]
theorem nodup_put {d : List (κ × α)} {k : κ} {v : α} (nd : (keys d).Nodup) : (keys (dput d k v)).Nodup := by
  by_cases h : k ∈ keys d
  · rw [keys_put_old h]; exact nd
  · rw [keys_put_new h]
    refine List.nodup_append.mpr ⟨nd, List.nodup_cons.mpr ⟨List.not_mem_nil, List.nodup_nil⟩, fun a ha b hb e => h ?_⟩
    rw [List.mem_singleton] at hb
    rw [← hb, ← e]; exact ha
theorem get_map_put {k j : κ} {v : α} : ∀ {d : List (κ × α)}, dget (d.map (fun p => if p.1 = k then (p.1, v) else p)) j = if j = k then (dget d j).map (fun _ => v) else dget d j
  | [] => by simp [dget_nil]
  | p :: d => by
    rw [List.map_cons, dget_cons, dget_cons, get_map_put (d := d)]
    by_cases h : p.1 = k
    · rw [if_pos h]
      by_cases h2 : j = k
      · rw [if_pos h2]; simp [h, h2]
      · rw [if_neg h2]; simp only [h]
        rw [if_neg (fun e => h2 e.symm)]
        rw [if_neg h2, if_neg (fun e => h2 e.symm)]
    · rw [if_neg h]
      by_cases h3 : p.1 = j
      · have h2 : ¬ j = k := fun e => h (by rw [h3, e])
        simp [h3, h2]
      · simp [h3]
theorem get_app {j : κ} {e : List (κ × α)} : ∀ {d : List (κ × α)}, dget (d ++ e) j = (dget d j).orElse fun _ => dget e j
  | [] => rfl
  | p :: d => by
    rw [List.cons_append, dget_cons, dget_cons, get_app (d := d)]
    split <;> rfl
theorem get_put_same {d : List (κ × α)} {k : κ} {v : α} : dget (dput d k v) k = some v := by
  by_cases h : k ∈ keys d
  · rw [dput_old h, get_map_put, if_pos rfl]
    obtain ⟨u, e⟩ := dget_some h
    rw [e]; rfl
  · rw [dput_new h, get_app, dget_none.mpr h]
    show dget [(k, v)] k = _
    rw [dget_cons, if_pos rfl]
theorem get_put_ne {d : List (κ × α)} {k j : κ} {v : α} (hj : j ≠ k) : dget (dput d k v) j = dget d j := by
  by_cases h : k ∈ keys d
  · rw [dput_old h, get_map_put, if_neg hj]
  · rw [dput_new h, get_app]
    cases e : dget d j with
    | some u => rfl
    | none =>
      show dget [(k, v)] j = none
      rw [dget_cons, if_neg (fun e => hj e.symm)]
      rfl
theorem get_put {d : List (κ × α)} {k j : κ} {v : α} : dget (dput d k v) j = if j = k then some v else dget d j := by
  by_cases h : j = k
  · rw [if_pos h, h, get_put_same]
  · rw [if_neg h, get_put_ne h]
theorem wp_dget {d : List (κ × α)} {k : κ} {Q : α → Prop} (h : k ∈ keys d) (q : ∀ v, dget d k = some v → Q v) : Wp (dget d k) Q := by
  obtain ⟨v, e⟩ := dget_some h
  exact ⟨v, e, q v e⟩
/-- the values, by the keys -/
theorem vals_of {d : List (κ × α)} (nd : (keys d).Nodup) : (keys d).filterMap (dget d) = d.map Prod.snd := by
  unfold keys
  rw [List.filterMap_map]
  have : ∀ (l : List (κ × α)), (∀ p ∈ l, p ∈ d) → l.filterMap (dget d ∘ Prod.fst) = l.map Prod.snd := by
    intro l
    induction l with
    | nil => intro _; rfl
    | cons p l ih =>
      intro h
      rw [List.filterMap_cons, List.map_cons]
      simp only [Function.comp]
      rw [mem_dget nd (show (p.1, p.2) ∈ d from h p List.mem_cons_self)]
      simp only
      rw [← ih fun q hq => h q (List.mem_cons_of_mem _ hq)]
  exact this d fun _ h => h
theorem deq_self [DecidableEq α] {d : List (κ × α)} (nd : (keys d).Nodup) : deq d d = true := by
  unfold deq
  simp only [beq_self_eq_true, Bool.true_and, List.all_eq_true, decide_eq_true_eq]
  exact fun p hp => mem_dget nd hp
end
end My
end
section
set_option Elab.async false
set_option linter.all false
set_option maxRecDepth 100000
namespace My
open PySem PySem.Spec PyProof.Rows L2 L3
/-! what is drawn -/
def Stm (s : List Int) : Prop := ∃ a b c, s = [a, b, c]
theorem next_wp {s : List Int} {n : Int} (hs : Stm s) (h0 : 0 < n) (h1 : n < 1073741824) : Wp (M_l_next s n) fun r => 0 ≤ r.1 ∧ r.1 < n ∧ Stm r.2 := by
  obtain ⟨a, b, c, rfl⟩ := hs
  have e0 : atI [a, b, c] (1 : Int) = some b := rfl
  have e1 : ixN [a, b, c].length (1 : Int) = some 1 := rfl
  have hdv : dv n = true := by unfold dv; simp; omega
  unfold M_l_next
  rw [e0, e1]
  simp only [Option.bind_some, Option.getD_some, List.set]
  have e2 : atI [a, b + 1, c] (0 : Int) = some a := rfl
  have e3 : atI [a, b + 1, c] (2 : Int) = some c := rfl
  have e4 : atI [a, b + 1, c] (1 : Int) = some (b + 1) := rfl
  have e5 : ixN [a, b + 1, c].length (0 : Int) = some 0 := rfl
  rw [e2, e3, e4, e5]
  simp only [Option.bind_some, Option.getD_some, List.set]
  by_cases h : 0 < a
  · rw [if_pos (by simpa using h), gp h0, gp hdv]
    exact ⟨_, rfl, Int.emod_nonneg _ (by omega), Int.emod_lt_of_pos _ h0, ⟨_, _, _, rfl⟩⟩
  · rw [if_neg (by simpa using h)]
    rw [gp (by rfl), gp (by decide), gp, gp (by decide), gp, gp (by rfl), gp (by decide), gp (by rfl), gp h0]
    · exact ⟨_, rfl, Int.emod_nonneg _ (by omega), Int.emod_lt_of_pos _ h0, ⟨_, _, _, rfl⟩⟩
    · have := Int.emod_nonneg (((c + 7919 * (b + 1) + 13) % 2147483647) * ((c + 7919 * (b + 1) + 13) % 2147483647 + 48271)) (b := 2147483629) (by decide)
      have := Int.emod_lt_of_pos (((c + 7919 * (b + 1) + 13) % 2147483647) * ((c + 7919 * (b + 1) + 13) % 2147483647 + 48271)) (b := 2147483629) (by decide)
      unfold sm
      simp
      omega
    · have := Int.emod_nonneg (c + 7919 * (b + 1) + 13) (b := 2147483647) (by decide)
      have := Int.emod_lt_of_pos (c + 7919 * (b + 1) + 13) (b := 2147483647) (by decide)
      unfold sm
      simp
      omega
theorem stream_wp {xs : List Int} {k : Int} (hk : 0 ≤ k) : Wp (M_l_stream xs k) Stm := by
  unfold M_l_stream
  simp only [Option.bind_some]
  by_cases h : k < (xs.length : Int)
  · rw [if_pos (by simpa using h), atI_get hk (by omega)]
    simp only [Option.bind_some]
    rw [gp]
    · exact ⟨_, rfl, _, _, _, rfl⟩
    · rw [Bool.or_eq_true]
      right
      split <;> rfl
  · rw [if_neg (by simpa using h)]
    simp only [Option.bind_some]
    rw [gp]
    · exact ⟨_, rfl, _, _, _, rfl⟩
    · rfl
/-- one more draw, then the rest -/
theorem wp_next {β : Type} {s : List Int} {n : Int} {k : Int × List Int → Option β} {Q : β → Prop} (hs : Stm s) (h0 : 0 < n) (h1 : n < 1073741824) (f : ∀ r t, 0 ≤ r → r < n → Stm t → Wp (k (r, t)) Q) : Wp ((M_l_next s n).bind k) Q :=
  wp_then (next_wp hs h0 h1) fun r h => f r.1 r.2 h.1 h.2.1 h.2.2
theorem wp_stream {β : Type} {xs : List Int} {i : Int} {k : List Int → Option β} {Q : β → Prop} (hk : 0 ≤ i) (f : ∀ t, Stm t → Wp (k t) Q) : Wp ((M_l_stream xs i).bind k) Q :=
  wp_then (stream_wp hk) f
theorem wp_let {α β : Type} {a : α} {k : α → Option β} {Q : β → Prop} (h : Wp (k a) Q) : Wp ((some a).bind k) Q := h
theorem sm_lt {i : Int} (h1 : -(2 ^ 64) < i) (h2 : i < 2 ^ 64) : sm i = true := by unfold sm; rw [Bool.and_eq_true]; exact ⟨decide_eq_true h1, decide_eq_true h2⟩
theorem rg_lt {i : Int} (h1 : -1000000 ≤ i) (h2 : i ≤ 16777216) : rg i = true := by unfold rg; rw [Bool.and_eq_true]; exact ⟨decide_eq_true (by omega), decide_eq_true h2⟩
/-- strings -/
theorem len_app (x y : Str) : (x ++ y).length = x.length + y.length := by
  show (x.cps ++ y.cps).size = x.cps.size + y.cps.size
  exact Array.size_append ..
end My
end
section
set_option Elab.async false
set_option linter.all false
set_option maxRecDepth 100000
namespace My
open PySem PySem.Spec PyProof.Rows L2 L3
abbrev Dc := List (Str × Int)
/-- how often a value stands in a dict -/
def cnt (d : Dc) (v : Int) : Nat := (d.map Prod.snd).count v
theorem names_with_ok {d : Dc} {v : Int} (nd : (keys d).Nodup) : ∃ r, M__names_with d v = some r ∧ r.length = cnt d v ∧ r.Nodup ∧ ∀ n, n ∈ r ↔ dget d n = some v := by
  have h : compM (keys d) () (fun x2 s4 => (dget d x2).bind fun x5 => if (decide (x5 = v)) = true then some (some x2, ()) else some ((none : Option Str), ())) = some ((keys d).filterMap (fun x => if dget d x = some v then some x else none), ()) := by
    refine compM_pure fun x hx => ?_
    obtain ⟨y, e⟩ := dget_some hx
    rw [e]
    simp only [Option.bind_some, decide_eq_true_eq, Option.some.injEq]
    split <;> rfl
  refine ⟨_, by unfold M__names_with; rw [h]; rfl, ?_, ?_, ?_⟩
  · have : ∀ (l : Dc), (∀ p ∈ l, p ∈ d) → ((keys l).filterMap (fun x => if dget d x = some v then some x else none)).length = (l.map Prod.snd).count v := by
      intro l
      induction l with
      | nil => intro _; rfl
      | cons p l ih =>
        intro h
        show (List.filterMap _ (p.1 :: keys l)).length = List.count v (p.2 :: l.map Prod.snd)
        rw [List.filterMap_cons, List.count_cons, ← ih fun q hq => h q (List.mem_cons_of_mem _ hq), mem_dget nd (show (p.1, p.2) ∈ d from h p List.mem_cons_self)]
        by_cases e : p.2 = v
        · simp [e]
        · simp [e]
    exact this d fun _ h => h
  · have : ∀ (l : List Str), l.Nodup → (l.filterMap (fun x => if dget d x = some v then some x else none)).Nodup := by
      intro l nl
      have e : l.filterMap (fun x => if dget d x = some v then some x else none) = l.filter (fun x => decide (dget d x = some v)) := by
        induction l with
        | nil => rfl
        | cons x l ih =>
          rw [List.filterMap_cons, List.filter_cons, ih (List.nodup_cons.mp nl).2]
          by_cases e : dget d x = some v <;> simp [e]
      rw [e]
      exact nl.sublist List.filter_sublist
    exact this _ nd
  · intro n
    rw [List.mem_filterMap]
    constructor
    · rintro ⟨a, _, h⟩
      by_cases e : dget d a = some v
      · rw [if_pos e] at h; cases h; exact e
      · rw [if_neg e] at h; cases h
    · intro e
      exact ⟨n, dget_key e, by rw [if_pos e]⟩
def Mv (d part : Dc) (n : Str) : Prop := ∃ u v, dget part n = some v ∧ dget d n = some u ∧ u ≠ v ∧ cnt d v < cnt part v
def NoMv (d part : Dc) (n : Str) : Prop := ∀ v, dget part n = some v → dget d n = some v ∨ cnt part v ≤ cnt d v
def MvS (d part : Dc) : Option Str → Prop
  | some n => Mv d part n
  | none => ∀ n, NoMv d part n
theorem mover_ok {d part : Dc} (nd : (keys d).Nodup) (np : (keys part).Nodup) (hl : part.length < 64) (hk : ∀ n ∈ keys part, n ∈ keys d) : Wp (M__next_mover d part) (MvS d part) := by
  unfold M__next_mover
  refine wp_grd hl (wp_bind (wp_forL (Q := fun o => Wp (boK (fun s10 => some (none : Option Str)) id o) (MvS d part)) (fun p _ => ∀ n ∈ p, NoMv d part n) (fun _ h => nomatch h) ?_ ?_))
  · intro p x t s e hI
    have hx : x ∈ keys part := (srtS_perm _).mem_iff.mp (mem_split e)
    refine wp_bind (wp_dget hx fun v ev => wp_let (wp_bind (wp_dget (hk x hx) fun u eu => ?_)))
    obtain ⟨r1, e1, l1, _, _⟩ := names_with_ok (v := v) nd
    obtain ⟨r2, e2, l2, _, _⟩ := names_with_ok (v := v) np
    rw [e1, e2]
    simp only [Option.bind_some, l1, l2]
    have ext : NoMv d part x → ∀ n ∈ p ++ [x], NoMv d part n := fun h n hn => by
      rcases List.mem_append.mp hn with hn | hn
      · exact hI n hn
      · rw [List.mem_singleton.mp hn]; exact h
    by_cases h1 : u = v
    · rw [if_neg (by simp [h1])]
      refine wp_let (wp_ite (fun z => nomatch z) fun _ => wp_some ?_)
      exact ext fun w ew => by
        rw [ev] at ew; cases ew; subst h1; exact .inl eu
    · rw [if_pos (by simp [h1])]
      refine wp_let (wp_ite (fun z => ?_) fun z => wp_some ?_)
      · exact ⟨_, rfl, _, rfl, u, v, ev, eu, h1, by simpa using z⟩
      · exact ext fun w ew => by
          rw [ev] at ew; cases ew
          exact .inr (by simp only [decide_eq_true_eq] at z; omega)
  · intro s hI
    refine wp_some fun n v ev => ?_
    exact hI n ((srtS_perm _).mem_iff.mpr (dget_key ev)) v ev
theorem cnt_put {d : Dc} {n : Str} {u v w : Int} (nd : (keys d).Nodup) (h : dget d n = some u) : cnt (dput d n v) w + (if u = w then 1 else 0) = cnt d w + (if v = w then 1 else 0) := by
  rw [dput_old (dget_key h)]
  unfold cnt
  have idem : ∀ (l : Dc), n ∉ keys l → l.map (fun p => if p.1 = n then (p.1, v) else p) = l := by
    intro l hl
    induction l with
    | nil => rfl
    | cons p l ih =>
      have hl : n ∉ p.1 :: keys l := hl
      rw [List.mem_cons, not_or] at hl
      rw [List.map_cons, ih hl.2, if_neg (fun e => hl.1 e.symm)]
  induction d with
  | nil => rw [dget_nil] at h; cases h
  | cons p d ih =>
    have nd : (p.1 :: keys d).Nodup := nd
    rw [List.nodup_cons] at nd
    rw [dget_cons] at h
    rw [List.map_cons, List.map_cons, List.map_cons, List.count_cons, List.count_cons]
    by_cases e : p.1 = n
    · rw [if_pos e] at h ⊢
      cases h
      rw [idem d (by rw [← e]; exact nd.1)]
      simp only [beq_iff_eq]
      omega
    · rw [if_neg e] at h ⊢
      have := ih nd.2 h
      omega
/-- what is kept by the merging -/
structure Mg (full part d : Dc) : Prop where
  ks : keys d = keys full
  vl : ∀ n x, dget d n = some x → dget full n = some x ∨ dget part n = some x
  ct : ∀ v, cnt d v ≤ max (cnt full v) (cnt part v)
theorem Mg.put {full part d : Dc} {n : Str} {v : Int} (nf : (keys full).Nodup) (g : Mg full part d) (m : Mv d part n) (ev : dget part n = some v) : Mg full part (dput d n v) := by
  obtain ⟨u, v', e1, e2, ne, c⟩ := m
  rw [ev] at e1; cases e1
  have nd : (keys d).Nodup := by rw [g.ks]; exact nf
  refine ⟨by rw [keys_put_old (dget_key e2), g.ks], fun j x h => ?_, fun w => ?_⟩
  · rw [get_put] at h
    by_cases e : j = n
    · rw [if_pos e] at h; cases h; rw [e]; exact .inr ev
    · rw [if_neg e] at h; exact g.vl j x h
  · have h := cnt_put (v := v) (w := w) nd e2
    have hc := g.ct w
    by_cases e : v = w
    · subst e
      rw [if_neg ne, if_pos rfl] at h
      omega
    · rw [if_neg e] at h
      omega
def msr (part d : Dc) : Nat := (part.filter fun p => decide (dget d p.1 ≠ some p.2)).length
theorem msr_put {part d : Dc} {n : Str} {v : Int} (np : (keys part).Nodup) (m : Mv d part n) (ev : dget part n = some v) : msr part (dput d n v) < msr part d := by
  obtain ⟨u, v', e1, e2, ne, c⟩ := m
  rw [ev] at e1; cases e1
  refine filter_lt (fun p hp h => ?_) ⟨(n, v), dget_mem ev, ?_, ?_⟩
  · rw [decide_eq_true_eq] at h ⊢
    intro hh
    apply h
    rw [get_put]
    by_cases e : p.1 = n
    · rw [if_pos e]
      have := mem_dget np (show (p.1, p.2) ∈ part from hp)
      rw [e, ev] at this
      exact this
    · rw [if_neg e]; exact hh
  · rw [decide_eq_true_eq, e2]
    intro h; cases h; exact ne rfl
  · rw [decide_eq_false_iff_not, get_put_same]; simp
theorem done_cnt {d part : Dc} (nd : (keys d).Nodup) (np : (keys part).Nodup) (h : ∀ n, NoMv d part n) (v : Int) : cnt part v ≤ cnt d v := by
  by_cases c : cnt part v ≤ cnt d v
  · exact c
  · obtain ⟨r1, _, l1, n1, m1⟩ := names_with_ok (v := v) nd
    obtain ⟨r2, _, l2, n2, m2⟩ := names_with_ok (v := v) np
    have := sub_len n2 (ys := r1) fun n hn => (m1 n).mpr ((h n v ((m2 n).mp hn)).elim id fun x => absurd x c)
    omega
theorem merged_ok {full part : Dc} (nf : (keys full).Nodup) (np : (keys part).Nodup) (hl : part.length < 64) (hf : full.length < 1000) (hk : ∀ n ∈ keys part, n ∈ keys full) : Wp (M_merged_fit full part) fun d => Mg full part d ∧ ∀ v, cnt part v ≤ cnt d v := by
  have hz := sz
  have hw := wfuel_eq
  have m0 : ∀ {d : Dc}, Mg full part d → Wp (M__next_mover d part) (MvS d part) := fun {d} g => mover_ok (by rw [g.ks]; exact nf) np hl (by rw [g.ks]; exact hk)
  have g0 : Mg full part full := ⟨rfl, fun _ _ h => .inl h, fun v => Nat.le_max_left _ _⟩
  unfold M_merged_fit
  refine wp_let (wp_then (m0 g0) fun r hr => wp_let (wp_bind (wp_whL (fun s => Mg full part s.2 ∧ MvS s.2 part s.1) (fun s => msr part s.2) ⟨g0, hr⟩ ?_ ?_)))
  · show msr part full < wfuel
    have : msr part full ≤ part.length := List.length_filter_le _ _
    omega
  · rintro ⟨mv, d⟩ ⟨g, ms⟩
    cases mv with
    | none =>
      refine wp_ite (fun z => nomatch z) fun _ => wp_some ?_
      refine wp_some ⟨g, done_cnt (by rw [g.ks]; exact nf) np ms⟩
    | some n =>
      refine wp_ite (fun _ => ?_) (fun z => absurd rfl z)
      have ms : Mv d part n := ms
      obtain ⟨u, v, ev, _⟩ := id ms
      have hd : d.length < sizeLine := by
        have : (keys d).length = (keys full).length := by rw [g.ks]
        unfold keys at this
        rw [List.length_map, List.length_map] at this
        omega
      have g' := g.put nf ms ev
      have lt := msr_put np ms ev
      refine wp_bind (wp_let (wp_eq ev (wp_let (wp_grd hd (wp_then (m0 g') fun r hr => ?_)))))
      exact wp_let (wp_some (wp_some ⟨⟨g', hr⟩, lt⟩))
end My
end
section
set_option Elab.async false
set_option linter.all false
set_option maxRecDepth 100000
namespace My
open PySem PySem.Spec PyProof.Rows L2 L3
/-! what is drawn -/
theorem pool_wp {s : List Int} {n : Int} (hs : Stm s) (h0 : 1 ≤ n) (h1 : n < 1000) : Wp (M_l_pool s n) fun r => (r.1.length : Int) = n ∧ Stm r.2 := by
  have hz := sz
  unfold M_l_pool
  refine wp_next hs (by decide) (by decide) fun r t _ _ ht => wp_let (wp_grd (rg_lt (by omega) (by omega)) (wp_bind (wp_for (fun p st => st.1.length = p.length + 1 ∧ Stm st.2) ⟨rfl, ht⟩ ?_ ?_)))
  · rintro p x q ⟨ys, st⟩ e ⟨hl, hst⟩
    have ex := rngL_split e
    have hl : ys.length = p.length + 1 := hl
    refine wp_bind (wp_at (by omega) (by show x < (ys.length : Int); omega) fun y _ _ => wp_next hst (by decide) (by decide) fun r2 t2 _ _ ht2 => wp_grd (by rfl) (wp_grd (by rfl) (wp_grd (by show ys.length < sizeLine; omega) (wp_some ⟨?_, ht2⟩))))
    show (ys ++ _).length = (p ++ [x]).length + 1
    simp only [List.length_append, List.length_singleton]
    omega
  · rintro ⟨ys, st⟩ ⟨hl, hst⟩
    have hl : ys.length = (rngL 0 (n - 1).toNat).length + 1 := hl
    rw [rngL_len] at hl
    refine wp_next hst (by decide) (by decide) fun r2 t2 h20 h21 ht2 => wp_bind (wp_at h20 (by simpa using h21) fun sc hsc _ => wp_let ?_)
    have hsm : sm sc = true := by
      simp only [List.mem_cons, List.not_mem_nil, or_false] at hsc
      rcases hsc with h | h | h | h | h | h | h | h <;> subst h <;> rfl
    have e : compM ys () (fun x113 s114 => if true = true then grd ((sm x113 || sm sc) = true) (some (some (x113 * sc), ())) else some ((none : Option Int), ())) = some (ys.filterMap (fun x => some (x * sc)), ()) := compM_pure fun x _ => by
      rw [if_pos rfl, gp (by rw [hsm, Bool.or_true])]
    refine wp_eq e (wp_some ⟨?_, ht2⟩)
    show ((ys.filterMap _).length : Int) = n
    rw [filterMap_some, List.length_map]
    omega
theorem cutS_len (z : Str) (lo hi : Option Int) : (cutS z lo hi).length ≤ z.length := by
  unfold cutS
  show (List.toArray _).size ≤ z.cps.size
  simp only [List.size_toArray, List.length_take, List.length_drop, Array.length_toList]
  omega
theorem len1 (c : Nat) : (⟨#[c]⟩ : Str).length = 1 := rfl
theorem names_wp {s : List Int} {n : Int} (hs : Stm s) (h0 : 0 ≤ n) (h1 : n ≤ 10) : Wp (M_l_names s n) fun r => (r.1.length : Int) = n ∧ Stm r.2 := by
  have hz := sz
  have hlen : (rngL 0 n.toNat).length = n.toNat := rngL_len _ _
  unfold M_l_names
  refine wp_next hs (by decide) (by decide) fun r t _ _ ht => wp_ite (fun _ => ?_) fun _ => ?_
  · refine wp_next ht (by decide) (by decide) fun r t _ _ ht => wp_let (wp_let (wp_grd (rg_lt (by omega) (by omega)) (wp_bind (wp_compA (fun _ => True) (fun _ => True) trivial ?_ ?_))))
    · intro x hx _ _
      rw [if_pos rfl]
      refine wp_grd (by rw [show sm 3 = true from rfl, Bool.or_true]) (wp_grd (by decide) (wp_bind (wp_at (Int.emod_nonneg _ (by decide)) (Int.emod_lt_of_pos _ (by decide)) fun y _ _ => wp_some ⟨y, rfl, trivial, trivial⟩)))
    · intro ys s hl _ _
      refine wp_some ⟨?_, ht⟩
      show (ys.length : Int) = n
      omega
  · refine wp_let (wp_let (wp_grd (rg_lt (by omega) (by omega)) (wp_bind (wp_for (fun p st => st.1.length = p.length ∧ Stm st.2) ⟨rfl, ht⟩ ?_ ?_))))
    · rintro p x q ⟨ys, st⟩ e ⟨hl, hst⟩
      have ex := rngL_split e
      have hl : ys.length = p.length := hl
      refine wp_next hst (by decide) (by decide) fun r2 t2 _ _ ht2 => wp_let (wp_next ht2 (by decide) (by decide) fun r3 t3 _ _ ht3 => wp_let (wp_next ht3 (by decide) (by decide) fun r4 t4 _ _ ht4 => ?_))
      have c1 := cutS_len ("qwertyuiopasdfghjklzxcvbnm_zyx" : Str) (some (26 - r4)) (some 26)
      have c2 := cutS_len ("qwertyuiopasdfghjklzxcvbnm_zyx" : Str) (some r2) (some (r2 + (1 + r3)))
      have c3 : ("qwertyuiopasdfghjklzxcvbnm_zyx" : Str).length = 30 := by decide +kernel
      refine wp_grd (by omega) (wp_let (wp_grd (by omega) (wp_grd (by decide +kernel) (wp_bind (wp_at (by omega) ?_ fun y _ _ => wp_grd ?_ (wp_grd ?_ (wp_grd ?_ (wp_some ⟨?_, ht4⟩))))))))
      · rw [show (("7305186429" : Str).cps.toList).length = 10 by decide +kernel]
        omega
      · dsimp only; rw [len1]; omega
      · dsimp only; rw [len_app, len1]; omega
      · show ys.length < sizeLine; omega
      · show (ys ++ _).length = (p ++ [x]).length
        simp only [List.length_append, List.length_singleton]; omega
    · rintro ⟨ys, st⟩ ⟨hl, hst⟩
      have hl : ys.length = (rngL 0 n.toNat).length := hl
      exact wp_some ⟨by show (ys.length : Int) = n; omega, hst⟩
theorem toStr_len {i : Int} (h0 : 0 ≤ i) (h1 : i < 100) : (Str.ofString (toString i)).length ≤ 2 := by
  obtain ⟨n, rfl⟩ : ∃ n : Nat, i = (n : Int) := ⟨i.toNat, by omega⟩
  have : ∀ n : Nat, n < 100 → (Str.ofString (toString (n : Int))).length ≤ 2 := by decide +kernel
  exact this n (by omega)
theorem log2_small {i : Int} (h0 : 0 ≤ i) (h1 : i < 100) : i.natAbs.log2 < 1920 := by
  obtain ⟨n, rfl⟩ : ∃ n : Nat, i = (n : Int) := ⟨i.toNat, by omega⟩
  have : ∀ n : Nat, n < 100 → (n : Int).natAbs.log2 < 1920 := by decide +kernel
  exact this n (by omega)
theorem many_wp {s : List Int} {n : Int} (hs : Stm s) (h0 : 0 ≤ n) (h1 : n ≤ 1000) : Wp (M_l_many_names s n) fun r => (r.1.length : Int) = n ∧ Stm r.2 := by
  have hz := sz
  have hlen : (rngL 0 n.toNat).length = n.toNat := rngL_len _ _
  unfold M_l_many_names
  refine wp_next hs (by decide) (by decide) fun r t hr0 hr1 ht => wp_bind (wp_at hr0 hr1 fun z1 hz1 _ => wp_let (wp_next ht (by decide) (by decide) fun r2 t2 hr20 hr21 ht2 => wp_bind (wp_at hr20 hr21 fun z2 hz2 _ => wp_let (wp_next ht2 (by decide) (by decide) fun r3 t3 _ _ ht3 => wp_let (wp_grd (rg_lt (by omega) (by omega)) (wp_bind (wp_compA (fun _ => True) (fun _ => True) trivial ?_ ?_)))))))
  · intro x hx _ _
    rw [if_pos rfl]
    have l1 : z1.length ≤ 6 := by
      simp only [List.mem_cons, List.not_mem_nil, or_false] at hz1
      rcases hz1 with h | h | h | h <;> subst h <;> decide +kernel
    have l2 : z2.length ≤ 6 := by
      simp only [List.mem_cons, List.not_mem_nil, or_false] at hz2
      rcases hz2 with h | h | h <;> subst h <;> decide +kernel
    have e0 := Int.emod_nonneg (x * 7 + r3) (b := 16) (by decide)
    have e1 := Int.emod_lt_of_pos (x * 7 + r3) (b := 16) (by decide)
    have l3 := toStr_len e0 (by omega)
    refine wp_grd (by rw [show sm 7 = true from rfl, Bool.or_true]) (wp_grd (by decide) (wp_grd (log2_small e0 (by omega)) (wp_grd ?_ (wp_grd ?_ (wp_some ⟨_, rfl, trivial, trivial⟩)))))
    · dsimp only; omega
    · dsimp only; rw [len_app]; omega
  · intro ys s hl _ _
    exact wp_some ⟨by show (ys.length : Int) = n; omega, ht3⟩
theorem drawn_wp {s : List Int} {n : Int} (hs : Stm s) (h0 : 0 ≤ n) (h1 : n ≤ 16) : Wp (M_l_drawn_names s n) fun r => (r.1.length : Int) = n ∧ Stm r.2 := by
  unfold M_l_drawn_names
  refine wp_ite (fun _ => wp_then (many_wp hs h0 (by omega)) fun r h => wp_some h) fun h => wp_then (names_wp hs h0 ?_) fun r h => wp_some h
  simp only [decide_eq_true_eq] at h
  omega
theorem cut_erase {α : Type} {xs : List α} {i : Int} (h0 : 0 ≤ i) (h1 : i < xs.length) : cutL xs none (some i) ++ cutL xs (some (i + 1)) none = xs.eraseIdx i.toNat := by
  unfold cutL
  have e1 : HT.sIx xs.length xs.length (some i) = i.toNat := by
    unfold HT.sIx; simp only; rw [if_neg (by omega)]; omega
  have e2 : HT.sIx xs.length 0 (some (i + 1)) = i.toNat + 1 := by
    unfold HT.sIx; simp only; rw [if_neg (by omega)]; omega
  have e3 : HT.sIx xs.length 0 none = 0 := rfl
  have e4 : HT.sIx xs.length xs.length none = xs.length := rfl
  rw [e1, e2, e3, e4, List.eraseIdx_eq_take_drop_succ, List.drop_zero, Nat.sub_zero]
  congr 1
  rw [List.take_of_length_le]
  rw [List.length_drop]
  omega
theorem perm_erase {α : Type} : ∀ {xs : List α} {i : Nat} (h : i < xs.length), (xs[i] :: xs.eraseIdx i).Perm xs
  | x :: xs, 0, _ => List.Perm.refl _
  | x :: xs, i + 1, h => by
    have ih := perm_erase (xs := xs) (i := i) (by simpa using h)
    show (xs[i]'(by simpa using h) :: x :: xs.eraseIdx i).Perm (x :: xs)
    exact (List.Perm.swap _ _ _).trans (List.Perm.cons x ih)
theorem shuffled_wp {s : List Int} {xs : List Str} (hs : Stm s) (h1 : xs.length ≤ 1000) : Wp (M_l_shuffled s xs) fun r => r.1.Perm xs ∧ Stm r.2 := by
  have hz := sz
  unfold M_l_shuffled
  refine wp_let (wp_let (wp_grd (rg_lt (by omega) (by omega)) (wp_bind (wp_for (fun p st => (st.2.1 ++ st.1).Perm xs ∧ st.2.1.length = p.length ∧ Stm st.2.2) ⟨List.Perm.refl _, rfl, hs⟩ ?_ ?_))))
  · rintro p x q ⟨rest, found, st⟩ e ⟨hp, hl, hst⟩
    have ex := rngL_split e
    have hl : found.length = p.length := hl
    have hp : (found ++ rest).Perm xs := hp
    have hn := hp.length_eq
    rw [List.length_append] at hn
    refine wp_next hst (by dsimp only; omega) (by dsimp only; omega) fun r t hr0 hr1 ht => wp_let (wp_bind (wp_at hr0 hr1 fun y hy ey => wp_grd (by dsimp only; omega) ?_))
    dsimp only at hr0 hr1 hy ey ⊢
    rw [cut_erase hr0 hr1]
    have hcut := congrArg List.length (cut_erase hr0 hr1)
    rw [List.length_append] at hcut
    have hle := List.length_eraseIdx_le rest r.toNat
    refine wp_grd (by omega) (wp_let (wp_some ⟨?_, ?_, ht⟩))
    · refine List.Perm.trans ?_ hp
      show (found ++ [y] ++ rest.eraseIdx r.toNat).Perm _
      rw [List.append_assoc]
      refine List.Perm.append_left _ ?_
      have hlt : r.toNat < rest.length := by omega
      have : y = rest[r.toNat] := by
        rw [List.getElem?_eq_getElem hlt] at ey
        exact (Option.some.inj ey).symm
      rw [this]
      exact (perm_erase hlt)
    · show (found ++ [y]).length = (p ++ [x]).length
      simp only [List.length_append, List.length_singleton]; omega
  · rintro ⟨rest, found, st⟩ ⟨hp, hl, hst⟩
    have hl : found.length = (rngL 0 ((xs.length : Int)).toNat).length := hl
    rw [rngL_len] at hl
    have hp : (found ++ rest).Perm xs := hp
    have hn := hp.length_eq
    rw [List.length_append] at hn
    have : rest = [] := List.eq_nil_of_length_eq_zero (by omega)
    subst this
    rw [List.append_nil] at hp
    exact wp_some ⟨hp, hst⟩
end My
end
section
set_option Elab.async false
set_option linter.all false
set_option maxRecDepth 100000
namespace My
open PySem PySem.Spec PyProof.Rows L2 L3
theorem idx_ok {α : Type} [DecidableEq α] {x : α} : ∀ {xs : List α}, x ∈ xs → ∃ n, idx? x xs = some n
  | y :: ys, h => by
    unfold idx?
    by_cases e : y = x
    · exact ⟨0, by rw [if_pos e]⟩
    · rcases List.mem_cons.mp h with h | h
      · exact absurd h.symm e
      · obtain ⟨n, hn⟩ := idx_ok h
        exact ⟨n + 1, by rw [if_neg e, hn]; rfl⟩
/-- a dict over some of the names -/
structure Ov (ns : List Str) (d : Dc) : Prop where
  nd : (keys d).Nodup
  ks : ∀ n ∈ keys d, n ∈ ns
theorem Ov.len {ns : List Str} {d : Dc} (h : Ov ns d) : d.length ≤ ns.length := by
  have := sub_len h.nd h.ks
  unfold keys at this
  rwa [List.length_map] at this
theorem Ov.put {ns : List Str} {d : Dc} (h : Ov ns d) {n : Str} {v : Int} (hn : n ∈ ns) : Ov ns (dput d n v) :=
  ⟨nodup_put h.nd, fun m hm => (mem_keys_put.mp hm).elim (h.ks m) fun e => by rw [e]; exact hn⟩
theorem Ov.nil (ns : List Str) : Ov ns [] := ⟨List.nodup_nil, fun _ h => absurd h List.not_mem_nil⟩
theorem two_wp {s : List Int} {ns : List Str} {pool : List Int} (hs : Stm s) (hn : ns.length ≤ 60) (h0 : 1 ≤ pool.length) (h1 : pool.length ≤ 1000) : Wp (M_l_two s ns pool) fun r => Stm r.2 ∧ ∃ a b, r.1 = [a, b] ∧ Ov ns a ∧ Ov ns b ∧ ∀ n ∈ ns, n ∈ keys a := by
  have hz := sz
  unfold M_l_two
  refine wp_next hs (by decide) (by decide) fun r t _ _ ht => wp_let (wp_next ht (by decide) (by decide) fun r2 t2 _ _ ht2 => wp_let (wp_let (wp_then (P := fun _ => True) ?_ fun gap _ => ?_)))
  · exact wp_ite (fun _ => wp_let (wp_some trivial)) fun _ => wp_some trivial
  refine wp_let (wp_let (wp_then (shuffled_wp ht2 (by omega)) fun ⟨sh, t3⟩ ⟨hp, ht3⟩ => ?_))
  refine wp_bind (wp_for (fun p st => Ov ns st.1 ∧ Ov ns st.2.1 ∧ Stm st.2.2 ∧ ∀ n ∈ p, n ∈ keys st.2.1) ⟨Ov.nil ns, Ov.nil ns, ht3, fun _ h => absurd h List.not_mem_nil⟩ ?_ ?_)
  · rintro p x q ⟨ch, wh, st⟩ e ⟨hc, hw, hst, hk⟩
    dsimp only at hc hw hst hk ⊢
    have hx : x ∈ ns := hp.mem_iff.mp (mem_split e)
    obtain ⟨at_, hat⟩ := idx_ok hx
    have lc := hc.len
    have lw := hw.len
    have hpos : (0 : Int) < (pool.length : Int) := by omega
    refine wp_eq hat (wp_let (wp_grd hpos (wp_bind (wp_at (Int.emod_nonneg _ (by omega)) (Int.emod_lt_of_pos _ hpos) fun u1 _ _ => wp_grd hpos (wp_bind (wp_at (Int.emod_nonneg _ (by omega)) (Int.emod_lt_of_pos _ hpos) fun u2 _ _ => wp_let (wp_then (P := fun z => z.1.length = 2 ∧ Stm z.2) ?_ ?_)))))))
    · refine wp_ite (fun _ => ?_) fun _ => wp_some ⟨rfl, hst⟩
      exact wp_next hst hpos (by omega) fun r3 t3 h30 h31 ht3 => wp_bind (wp_at h30 h31 fun u3 _ _ => wp_next ht3 hpos (by omega) fun r4 t4 h40 h41 ht4 => wp_bind (wp_at h40 h41 fun u4 _ _ => wp_let (wp_some ⟨rfl, ht4⟩)))
    · rintro ⟨vs, st2⟩ ⟨hv, hst2⟩
      dsimp only at hv hst2 ⊢
      refine wp_bind (wp_at (by decide) (by omega) fun u5 _ _ => wp_grd (by omega) (wp_next hst2 (by decide) (by decide) fun r5 t5 _ _ ht5 => wp_then (P := fun z => Ov ns z.1 ∧ Stm z.2) ?_ ?_))
      · refine wp_ite (fun _ => ?_) fun _ => wp_some ⟨hc, ht5⟩
        exact wp_bind (wp_at (by decide) (by omega) fun u6 _ _ => wp_grd (by omega) (wp_some ⟨hc.put hx, ht5⟩))
      · rintro ⟨ch2, t6⟩ ⟨hc2, ht6⟩
        refine wp_some ⟨hc2, hw.put hx, ht6, fun n hn => ?_⟩
        rcases List.mem_append.mp hn with h | h
        · exact mem_keys_put.mpr (.inl (hk n h))
        · exact mem_keys_put.mpr (.inr (List.mem_singleton.mp h))
  · rintro ⟨ch, wh, st⟩ ⟨hc, hw, hst, hk⟩
    dsimp only at hc hw hst hk ⊢
    refine wp_let (wp_then (shuffled_wp hst (by omega)) fun ⟨sh2, t4⟩ ⟨hp2, ht4⟩ => wp_bind (wp_for (fun p st => Ov ns st) (Ov.nil ns) ?_ ?_))
    · intro p x q st e ho
      have lo := ho.len
      refine wp_then (P := fun z => Ov ns z) ?_ fun z hz => wp_some hz
      refine wp_ite (fun h => ?_) fun _ => wp_some ho
      exact wp_bind (wp_dget (dhas_iff.mp h) fun v _ => wp_grd (by omega) (wp_some (ho.put (hp2.mem_iff.mp (mem_split e)))))
    · intro sm_ ho
      exact wp_some ⟨ht4, wh, sm_, rfl, hw, ho, fun n hn => hk n (hp.mem_iff.mpr hn)⟩
theorem same_ok {d : Dc} (nd : (keys d).Nodup) : M_l_same_values d d = some true := by
  have hg : ∀ x ∈ keys d, ∃ v, dget d x = some v := fun x hx => dget_some hx
  apply wp_is
  unfold M_l_same_values
  rw [if_neg (by simp)]
  have h1 : compM (keys d) () (fun x217 s223 => ((if (dhas d x217) = true then (dget d x217).bind fun x226 => (M_l_is_integer x226).bind fun r227 => some (r227, ()) else some (false, ()))).bind fun c228 => if c228.1 = true then some (some x217, ()) else some ((none : Option Str), ())) = some ((keys d).filterMap (fun x => some x), ()) := compM_pure fun x hx => by
    obtain ⟨v, e⟩ := hg x hx
    rw [if_pos (dhas_iff.mpr hx), e]
    unfold M_l_is_integer
    rfl
  rw [filterMap_some, List.map_id'] at h1
  refine wp_eq h1 (wp_let ?_)
  dsimp only
  rw [if_pos (by simp)]
  have h2 : compM (keys d) () (fun x243 s246 => if true = true then (dget d x243).bind fun x247 => (dget d x243).bind fun x248 => some (some (decide (x247 = x248)), ()) else some ((none : Option Bool), ())) = some ((keys d).filterMap (fun x => some true), ()) := compM_pure fun x hx => by
    obtain ⟨v, e⟩ := hg x hx
    rw [if_pos rfl, e]
    simp
  rw [filterMap_some] at h2
  refine wp_bind (wp_eq h2 (wp_some (wp_some ?_)))
  simp
theorem is_merged_ok {full part d : Dc} (nf : (keys full).Nodup) (np : (keys part).Nodup) (hf : full.length < 1000) (hp : part.length < 1000) (g : Mg full part d) (hc : ∀ v, cnt part v ≤ cnt d v) : M_l_is_merged d full part = some true := by
  have hz := sz
  have nd : (keys d).Nodup := by rw [g.ks]; exact nf
  have hlen : d.length = full.length := by
    have := congrArg List.length g.ks
    unfold keys at this
    rwa [List.length_map, List.length_map] at this
  apply wp_is
  unfold M_l_is_merged
  rw [if_neg (by simp [hlen])]
  refine wp_bind (wp_forL (fun _ _ => True) trivial ?_ ?_)
  · intro p x t s e _
    have hx : x ∈ keys full := mem_split e
    have hx2 : x ∈ keys d := by rw [g.ks]; exact hx
    obtain ⟨v, ev⟩ := dget_some hx2
    obtain ⟨w, ew⟩ := dget_some hx
    rw [if_neg (by simp [dhas_iff.mpr hx2]), ev]
    unfold M_l_is_integer
    simp only [Option.bind_some, Bool.not_false, Bool.and_true, Bool.not_true]
    rw [if_neg (by simp), ew]
    simp only [Option.bind_some]
    rcases g.vl x v ev with h | h
    · rw [ew] at h; cases h
      rw [if_neg (by simp)]
      exact wp_let (wp_ite (fun z => nomatch z) fun _ => wp_some trivial)
    · rw [h]
      rw [if_neg (c := (!dhas part x) = true) (by simp [dhas_iff.mpr (dget_key h)])]
      simp only [Option.bind_some, decide_true, Bool.not_true]
      refine wp_bind (wp_ite (fun _ => wp_some ?_) fun _ => wp_some ?_) <;> exact wp_ite (fun z => nomatch z) fun _ => wp_some trivial
  · intro s _
    have e1 : compM (keys full) () (fun x257 s259 => if true = true then (dget d x257).bind fun x260 => some (some x260, ()) else some ((none : Option Int), ())) = some ((keys full).filterMap (dget d), ()) := compM_pure fun x hx => by
      obtain ⟨v, ev⟩ := dget_some (show x ∈ keys d by rw [g.ks]; exact hx)
      rw [if_pos rfl, ev]; rfl
    have e2 : compM (keys full) () (fun x257 s259 => if true = true then (dget full x257).bind fun x260 => some (some x260, ()) else some ((none : Option Int), ())) = some ((keys full).filterMap (dget full), ()) := compM_pure fun x hx => by
      obtain ⟨v, ev⟩ := dget_some hx
      rw [if_pos rfl, ev]; rfl
    have e3 : compM (keys part) () (fun x257 s259 => if true = true then (dget part x257).bind fun x260 => some (some x260, ()) else some ((none : Option Int), ())) = some ((keys part).filterMap (dget part), ()) := compM_pure fun x hx => by
      obtain ⟨v, ev⟩ := dget_some hx
      rw [if_pos rfl, ev]; rfl
    rw [show (keys full).filterMap (dget d) = d.map Prod.snd by rw [← g.ks]; exact vals_of nd] at e1
    rw [vals_of nf] at e2
    rw [vals_of np] at e3
    show Wp (Option.bind _ _) _
    refine wp_eq e1 (wp_let (wp_eq e2 (wp_let (wp_eq e3 (wp_let (wp_grd ?_ (wp_bind (wp_forL (fun _ _ => True) trivial ?_ ?_))))))))
    · simp only [List.length_map]; omega
    · intro p x t s e _
      have h1 := hc x
      have h2 := g.ct x
      unfold cnt at h1 h2
      dsimp only
      rw [if_neg (by rw [decide_eq_true_eq]; omega), if_neg (by rw [decide_eq_true_eq]; omega)]
      exact wp_some trivial
    · intro s _
      exact wp_some rfl
end My
end
section
set_option Elab.async false
set_option linter.all false
set_option maxRecDepth 100000
namespace My
open PySem PySem.Spec PyProof.Rows L2 L3
theorem at0 {α : Type} {a b : α} : atI [a, b] (0 : Int) = some a := rfl
theorem at1 {α : Type} {a b : α} : atI [a, b] (1 : Int) = some b := rfl
/-- a turn -/
structure Tn (ns : List Str) (x : List Dc) : Prop where
  it : ∃ a b, x = [a, b] ∧ Ov ns a ∧ Ov ns b ∧ ∀ n ∈ ns, n ∈ keys a
theorem law_ok (script : List Int) : M_law script = some true := by
  have hz := sz
  apply wp_is
  unfold M_law
  refine wp_stream (by decide) fun s0 hs0 => wp_let (wp_next hs0 (by decide) (by decide) fun r1 s1 _ _ hs1 => wp_let (wp_next hs1 (by decide) (by decide) fun r2 s2 hr20 hr21 hs2 => wp_let (wp_then (P := fun c => 0 ≤ c ∧ c ≤ 16) ?_ fun c hc => ?_)))
  · exact wp_ite (fun _ => wp_let (wp_some ⟨by decide, by decide⟩)) fun _ => wp_some ⟨hr20, by dsimp only; omega⟩
  refine wp_then (drawn_wp hs2 hc.1 hc.2) fun ⟨ns, s3⟩ ⟨hns, hs3⟩ => wp_let (wp_next hs3 (by decide) (by decide) fun r4 s4 hr40 hr41 hs4 => wp_let (wp_next hs4 (by decide) (by decide) fun r5 s5 _ _ hs5 => wp_then (P := fun c => 1 ≤ c.1 ∧ c.1 ≤ 20 ∧ Stm c.2) ?_ fun ⟨sz_, s5'⟩ hsz => ?_))
  · exact wp_ite (fun _ => wp_let (wp_some ⟨by dsimp only; omega, by dsimp only; omega, hs5⟩)) fun _ => wp_some ⟨by dsimp only; omega, by dsimp only; omega, hs5⟩
  dsimp only at hns hs3 hs4 hs5 hsz ⊢
  refine wp_then (pool_wp hsz.2.2 hsz.1 (by omega)) fun ⟨pool, s6⟩ ⟨hpool, hs6⟩ => wp_let (wp_stream (by decide) fun u1 hu1 => wp_then (two_wp hu1 (by omega) (by dsimp only at hpool ⊢; omega) (by dsimp only at hpool ⊢; omega)) fun ⟨one, u2⟩ ⟨_, one_⟩ => wp_let (wp_stream (by decide) fun v1 hv1 => wp_then (two_wp hv1 (by omega) (by dsimp only at hpool ⊢; omega) (by dsimp only at hpool ⊢; omega)) fun ⟨two, v2⟩ ⟨_, two_⟩ => wp_let (wp_stream (by decide) fun w1 hw1 => wp_next hw1 (by decide) (by decide) fun r7 w2 _ _ _ => wp_let (wp_let ?_))))
  dsimp only at one_ two_ ⊢
  obtain ⟨a1, b1, e1, oa1, ob1, k1⟩ := one_
  obtain ⟨a2, b2, e2, oa2, ob2, k2⟩ := two_
  subst e1 e2
  rw [at0, at1]
  simp only [Option.bind_some]
  refine wp_bind (wp_forL (fun p st => st.length = p.length ∧ ∀ i x d, p[i]? = some x → st[i]? = some d → (keys d).Nodup ∧ ∃ a b, x = [a, b] ∧ M_merged_fit a b = some d) ⟨rfl, fun i x d h => by rw [List.getElem?_nil] at h; cases h⟩ ?_ ?_)
  · rintro p x t kept e ⟨hl, hk⟩
    have htn : ∃ a b, x = [a, b] ∧ Ov ns a ∧ Ov ns b ∧ ∀ n ∈ ns, n ∈ keys a := by
      have hx := mem_split e
      simp only [List.mem_cons, List.not_mem_nil, or_false] at hx
      rcases hx with h | h | h | h
      · exact ⟨_, _, h, oa1, ob1, k1⟩
      · exact ⟨_, _, h, oa1, ob2, k1⟩
      · exact ⟨_, _, h, oa2, ob2, k2⟩
      · exact ⟨_, _, h, oa1, ob1, k1⟩
    have hpl : p.length < 4 := by
      have := congrArg List.length e
      simp only [List.length_append, List.length_cons, List.length_nil] at this
      omega
    obtain ⟨a, b, ex, oa, ob, ka⟩ := htn
    subst ex
    rw [at0, at1]
    simp only [Option.bind_some]
    have la := oa.len
    have lb := ob.len
    obtain ⟨d, ed, g, hc⟩ := merged_ok oa.nd ob.nd (by omega) (by omega) fun n hn => ka n (ob.ks n hn)
    refine wp_eq ed (wp_eq (is_merged_ok oa.nd ob.nd (by omega) (by omega) g hc) ?_)
    rw [if_neg (by simp)]
    refine wp_grd (by omega) (wp_then (P := fun _ => True) ?_ fun told _ => ?_)
    · exact wp_ite (fun _ => wp_some trivial) fun _ => wp_some trivial
    refine wp_eq (same_ok oa.nd) ?_
    rw [if_neg (by simp), same_ok ob.nd]
    simp only [Option.bind_some, Bool.not_true]
    rw [if_neg (by simp)]
    refine wp_then (P := fun _ => True) ?_ fun z _ => wp_some ⟨?_, fun i x d' hi hd => ?_⟩
    · exact wp_ite (fun _ => wp_some trivial) fun _ => wp_some trivial
    · simp only [List.length_append, List.length_singleton, hl]
    · by_cases hi2 : i < p.length
      · rw [List.getElem?_append_left hi2] at hi
        rw [List.getElem?_append_left (by omega)] at hd
        exact hk i x d' hi hd
      · rw [List.getElem?_append_right (by omega)] at hi
        rw [List.getElem?_append_right (by omega), hl] at hd
        have : i - p.length = 0 := by
          by_cases h0 : i - p.length = 0
          · exact h0
          · rw [List.getElem?_eq_none (by simp; omega)] at hi; cases hi
        rw [this] at hi hd
        simp only [List.getElem?_cons_zero, Option.some.injEq] at hi hd
        subst hi hd
        exact ⟨by rw [g.ks]; exact oa.nd, a, b, rfl, ed⟩
  · rintro kept ⟨hl, hk⟩
    have hl : kept.length = 4 := hl
    refine wp_bind (wp_at (by decide) (by omega) fun d3 _ e3 => wp_bind (wp_at (by decide) (by omega) fun d0 _ e0 => wp_some ?_))
    obtain ⟨n3, a3, b3, x3, m3⟩ := hk 3 _ d3 rfl e3
    obtain ⟨n0, a0, b0, x0, m0⟩ := hk 0 _ d0 rfl e0
    cases x3
    cases x0
    rw [m3] at m0
    cases m0
    exact deq_self n3
end My
end
section
set_option Elab.async false
set_option linter.all false
set_option maxRecDepth 100000
set_option maxHeartbeats 0
namespace My
open PySem PySem.Spec PyProof.Rows L2 L3
def d__names_with : He.DefD := ⟨("_names_with", none), "_names_with", "_names_with", defArgs (top 1), defBody (top 1), defScope (top 1), [], []⟩
def d__next_mover : He.DefD := ⟨("_next_mover", none), "_next_mover", "_next_mover", defArgs (top 2), defBody (top 2), defScope (top 2), [], []⟩
def d_merged_fit : He.DefD := ⟨("merged_fit", none), "merged_fit", "merged_fit", defArgs (top 3), defBody (top 3), defScope (top 3), [], []⟩
def d__law_is_integer : He.DefD := ⟨("_law_is_integer", none), "_law_is_integer", "_law_is_integer", defArgs (top 5), defBody (top 5), defScope (top 5), [], []⟩
def d__law_stream : He.DefD := ⟨("_law_stream", none), "_law_stream", "_law_stream", defArgs (top 6), defBody (top 6), defScope (top 6), [], []⟩
def d__law_next : He.DefD := ⟨("_law_next", none), "_law_next", "_law_next", defArgs (top 7), defBody (top 7), defScope (top 7), [], []⟩
def d__law_names : He.DefD := ⟨("_law_names", none), "_law_names", "_law_names", defArgs (top 8), defBody (top 8), defScope (top 8), [], []⟩
def d__law_pool : He.DefD := ⟨("_law_pool", none), "_law_pool", "_law_pool", defArgs (top 9), defBody (top 9), defScope (top 9), [], []⟩
def d__law_shuffled : He.DefD := ⟨("_law_shuffled", none), "_law_shuffled", "_law_shuffled", defArgs (top 10), defBody (top 10), defScope (top 10), [], []⟩
def d__law_many_names : He.DefD := ⟨("_law_many_names", none), "_law_many_names", "_law_many_names", defArgs (top 11), defBody (top 11), defScope (top 11), [], []⟩
def d__law_drawn_names : He.DefD := ⟨("_law_drawn_names", none), "_law_drawn_names", "_law_drawn_names", defArgs (top 12), defBody (top 12), defScope (top 12), [], []⟩
def d__law_two : He.DefD := ⟨("_law_two", none), "_law_two", "_law_two", defArgs (top 13), defBody (top 13), defScope (top 13), [], []⟩
def d__law_same_values : He.DefD := ⟨("_law_same_values", none), "_law_same_values", "_law_same_values", defArgs (top 14), defBody (top 14), defScope (top 14), [], []⟩
def d__law_is_merged : He.DefD := ⟨("_law_is_merged", none), "_law_is_merged", "_law_is_merged", defArgs (top 15), defBody (top 15), defScope (top 15), [], []⟩
def d_law : He.DefD := ⟨("law", none), "law", "law", defArgs (top 16), defBody (top 16), defScope (top 16), [], []⟩
def fn : List He.DefD := [d__names_with, d__next_mover, d_merged_fit, d__law_is_integer, d__law_stream, d__law_next, d__law_names, d__law_pool, d__law_shuffled, d__law_many_names, d__law_drawn_names, d__law_two, d__law_same_values, d__law_is_merged, d_law]
def fa : List He.Fa := [.glo "_names_with", .glo "_next_mover", .glo "merged_fit", .glo "_law_is_integer", .glo "_law_stream", .glo "_law_next", .glo "_law_names", .glo "_law_pool", .glo "_law_shuffled", .glo "_law_many_names", .glo "_law_drawn_names", .glo "_law_two", .glo "_law_same_values", .glo "_law_is_merged", .glo "law", .free "all", .free "bool", .free "dict", .free "int", .free "isinstance", .free "len", .free "list", .free "max", .free "range", .free "sorted", .free "str"]
def loose0 : List PySem.Str := ["_names_with", "_next_mover", "merged_fit", "_law_is_integer", "_law_stream", "_law_next", "_law_names", "_law_pool", "_law_shuffled", "_law_many_names", "_law_drawn_names", "_law_two", "_law_same_values", "_law_is_merged"]
def loose : List PySem.Str := loose0
abbrev R : PySem.W.OpenRow := PySem.W.OpenLaw.row PySem.Challenge.rw_curbdesk_k20_merged_fit
abbrev hk : PySem.W.Hook := He.hookD 4 fa fn
def ob (s : PySem.W.SharedT) : He.AlD := He.obsDG 4 fa fn (HandSHeadRun.getT s)
theorem ob_eq (s : PySem.W.SharedT) : ob s = hk.obs s.abs := He.obsDG_eq (HandSHeadRun.getT_eq s)
theorem run (w : World) : HandSHeadRun.RunEq R (PySem.W.view R.prog [16]) hk ob 2000 loose w := by
  intro os
  kernel_rfl
theorem facts {P : Program} {w : World} {K : PySem.W.Frag} {h : Heap} {mg : Str → Option Value} {f : Addr} (X : K.In h) (G : h.Ns mainGlobals mg) (hfa : mg ("law" : Str) = some (.ref f)) (c : He.SaysD fa fn K) :
    ∃ fd : FuncData, (∀ (s : Shared) (v : Value), BindsTo s fd ⟨[v], []⟩ [("_law_script", v)]) ∧ ∀ base : Heap, K.In base → base.Ns mainGlobals mg → FnOk P w K mg base CX0 4 f fd ["_law_script"] (Sp_S K M_law) := by
  obtain ⟨fd__names_with, F__names_with⟩ := c.def_ 0 (d := d__names_with) rfl
  obtain ⟨fd__next_mover, F__next_mover⟩ := c.def_ 1 (d := d__next_mover) rfl
  obtain ⟨fd_merged_fit, F_merged_fit⟩ := c.def_ 2 (d := d_merged_fit) rfl
  obtain ⟨fd__law_is_integer, F__law_is_integer⟩ := c.def_ 3 (d := d__law_is_integer) rfl
  obtain ⟨fd__law_stream, F__law_stream⟩ := c.def_ 4 (d := d__law_stream) rfl
  obtain ⟨fd__law_next, F__law_next⟩ := c.def_ 5 (d := d__law_next) rfl
  obtain ⟨fd__law_names, F__law_names⟩ := c.def_ 6 (d := d__law_names) rfl
  obtain ⟨fd__law_pool, F__law_pool⟩ := c.def_ 7 (d := d__law_pool) rfl
  obtain ⟨fd__law_shuffled, F__law_shuffled⟩ := c.def_ 8 (d := d__law_shuffled) rfl
  obtain ⟨fd__law_many_names, F__law_many_names⟩ := c.def_ 9 (d := d__law_many_names) rfl
  obtain ⟨fd__law_drawn_names, F__law_drawn_names⟩ := c.def_ 10 (d := d__law_drawn_names) rfl
  obtain ⟨fd__law_two, F__law_two⟩ := c.def_ 11 (d := d__law_two) rfl
  obtain ⟨fd__law_same_values, F__law_same_values⟩ := c.def_ 12 (d := d__law_same_values) rfl
  obtain ⟨fd__law_is_merged, F__law_is_merged⟩ := c.def_ 13 (d := d__law_is_merged) rfl
  obtain ⟨fd_law, F_law⟩ := c.def_ 14 (d := d_law) rfl
  have e := hfa.symm.trans (He.glo_ok X G (c.fact 14 (f := .glo "law") rfl))
  cases e
  have b := FunD.bindsA (ps := ["_law_script"]) F_law fun _ _ _ _ _ _ us hl => match us, hl with | [_], _ => rfl
  have C : Ev K mg := ⟨⟨_, fd__names_with, F__names_with, He.glo_ok X G (c.fact 0 (f := .glo "_names_with") rfl)⟩, ⟨_, fd__next_mover, F__next_mover, He.glo_ok X G (c.fact 1 (f := .glo "_next_mover") rfl)⟩, ⟨_, fd_merged_fit, F_merged_fit, He.glo_ok X G (c.fact 2 (f := .glo "merged_fit") rfl)⟩, ⟨_, fd__law_is_integer, F__law_is_integer, He.glo_ok X G (c.fact 3 (f := .glo "_law_is_integer") rfl)⟩, ⟨_, fd__law_stream, F__law_stream, He.glo_ok X G (c.fact 4 (f := .glo "_law_stream") rfl)⟩, ⟨_, fd__law_next, F__law_next, He.glo_ok X G (c.fact 5 (f := .glo "_law_next") rfl)⟩, ⟨_, fd__law_names, F__law_names, He.glo_ok X G (c.fact 6 (f := .glo "_law_names") rfl)⟩, ⟨_, fd__law_pool, F__law_pool, He.glo_ok X G (c.fact 7 (f := .glo "_law_pool") rfl)⟩, ⟨_, fd__law_shuffled, F__law_shuffled, He.glo_ok X G (c.fact 8 (f := .glo "_law_shuffled") rfl)⟩, ⟨_, fd__law_many_names, F__law_many_names, He.glo_ok X G (c.fact 9 (f := .glo "_law_many_names") rfl)⟩, ⟨_, fd__law_drawn_names, F__law_drawn_names, He.glo_ok X G (c.fact 10 (f := .glo "_law_drawn_names") rfl)⟩, ⟨_, fd__law_two, F__law_two, He.glo_ok X G (c.fact 11 (f := .glo "_law_two") rfl)⟩, ⟨_, fd__law_same_values, F__law_same_values, He.glo_ok X G (c.fact 12 (f := .glo "_law_same_values") rfl)⟩, ⟨_, fd__law_is_merged, F__law_is_merged, He.glo_ok X G (c.fact 13 (f := .glo "_law_is_merged") rfl)⟩, He.free_ok X G (c.fact 15 (f := .free "all") rfl), He.free_ok X G (c.fact 16 (f := .free "bool") rfl), He.free_ok X G (c.fact 17 (f := .free "dict") rfl), He.free_ok X G (c.fact 18 (f := .free "int") rfl), He.free_ok X G (c.fact 19 (f := .free "isinstance") rfl), He.free_ok X G (c.fact 20 (f := .free "len") rfl), He.free_ok X G (c.fact 21 (f := .free "list") rfl), He.free_ok X G (c.fact 22 (f := .free "max") rfl), He.free_ok X G (c.fact 23 (f := .free "range") rfl), He.free_ok X G (c.fact 24 (f := .free "sorted") rfl), He.free_ok X G (c.fact 25 (f := .free "str") rfl)⟩
  exact ⟨fd_law, fun s v => b s [v] rfl, fun base _ _ => ok_law C F_law⟩
end My
end
set_option Elab.async false
set_option maxRecDepth 100000
set_option maxHeartbeats 0
open PySem PySem.W PySem.Calls PyProof.Rows
theorem PySem.Challenge.cw_curbdesk_k20_merged_fit_holds : PySem.Challenge.rw_curbdesk_k20_merged_fit.Holds := by
  w_on; o_law
  refine HandSHeadRun.head_any (r := OpenLaw.row PySem.Challenge.rw_curbdesk_k20_merged_fit) (q := view (OpenLaw.row PySem.Challenge.rw_curbdesk_k20_merged_fit).prog [16]) (H := My.hk) (ob := My.ob) (M := 2000) (loose := My.loose) (d := HandSHeadRun.topDef (OpenLaw.row PySem.Challenge.rw_curbdesk_k20_merged_fit).prog 16) (kwd := []) My.ob_eq
    (by kernel_rfl) (fun s => by kernel_rfl) My.run (by kernel_rfl) (by kernel_rfl) (by kernel_rfl) (by rfl) (by first | assumption | decide +kernel) (by decide +kernel) ⟨rfl, rfl, rfl, rfl, rfl, by decide +kernel⟩ ?hw ?hc
  case hw => w_witness2
  case hc =>
    refine L2.walk_ofE (l := PySem.Challenge.rw_curbdesk_k20_merged_fit) (n := 63) (k := 4) (x := "_law_script") (CX := L2.CX0) rfl (by decide) (by kernel_rfl) ⟨rfl, by decide, by decide⟩ ?F (fun _ _ _ _ z => z)
    intro w mg fa h Y G hmg0
    obtain ⟨K, KX, c⟩ := Y
    have hmg : mg ("law" : PySem.Str) = some (.ref fa) := by
      have e : (HandSHeadRun.topDef (OpenLaw.row PySem.Challenge.rw_curbdesk_k20_merged_fit).prog 16).name = ("law" : PySem.Str) := by kernel_rfl
      rw [← e]
      exact hmg0
    obtain ⟨fd, hb, hF⟩ := My.facts (P := (PySem.Challenge.rw_curbdesk_k20_merged_fit).prog) (w := w) KX G hmg c
    exact ⟨K, fd, L3.Sp_S K My.M_law, KX, hb, fun H a ns hl _ hS => ⟨a, ns, rfl, Nat.le_trans hl (by decide), hS, true, My.law_ok ns, fun _ => rfl⟩, hF⟩
