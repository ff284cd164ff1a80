import PyProof.Rows.All
import Wide.All
import OpenK.AllK
import Wide.FinOn
import KE.KStateDown
import HandS.ForMost
import HandS.Flow
import HandS.Style
import HandS.IsInst
import HandS.Strs
import HandS.SortInts
import HandS.Defaults
import HandS.MakeKwOnly
import HandS.SetFor
import HandS.More
import HandS.Finally
import HandS.DictComp
import HandS.DictEq
import HandS.DeepEq
import HandS.Iter
import HandS.Exc
import HandS.Head0
import HandS.Head1
import HandS.Head2
import HandS.HeadEnd
import HandS.HeadHook1
import HandS.HeadHook2
import PySem.Challenge.RW_curbdesk_k10_live_layers
section
set_option Elab.async false
set_option linter.all false
set_option maxRecDepth 100000
set_option maxHeartbeats 4000000
/-! L3: typed evaluation over the hand layer -/
namespace L3
open PySem PySem.Spec PyProof.Rows L2
abbrev SS := L2.St

/-! ### what never changes -/
def Pst : HO → Prop
  | .frz _ _ => True
  | .tup _ => True
  | _ => False
def Fzs (H H' : Hp) : Prop := ∀ a o, Pst o → H a = some o → H' a = some o
theorem Fzs.refl (H : Hp) : Fzs H H := fun _ _ _ h => h
theorem Fzs.trans {H H1 H2 : Hp} (a : Fzs H H1) (b : Fzs H1 H2) : Fzs H H2 := fun x o p h => b x o p (a x o p h)
def Gr (H H' : Hp) : Prop := ∀ a o, H a = some o → H' a = some o
theorem Gr.refl (H : Hp) : Gr H H := fun _ _ h => h
theorem Gr.trans {H H1 H2 : Hp} (a : Gr H H1) (b : Gr H1 H2) : Gr H H2 := fun x o h => b x o (a x o h)
theorem Gr.fzs {H H' : Hp} (g : Gr H H') : Fzs H H' := fun a o _ h => g a o h
theorem Gr.new {H : Hp} {p : Addr} {o : HO} (h : H p = none) : Gr H (upd H p o) := fun a u e => by
  rw [upd_ne (ne_of_none e h)]; exact e
theorem Mut.npst {o : HO} (m : Mut (some o)) : ¬ Pst o := by
  cases o <;> first | exact fun z => z | exact fun _ => m
theorem Fzs.mut {H : Hp} {p : Addr} {o u : HO} (h : H p = some o) (m : ¬ Pst o) : Fzs H (upd H p u) := fun a x px e => by
  have : a ≠ p := fun z => by subst z; rw [h] at e; cases e; exact m px
  rw [upd_ne this]; exact e

/-! ### frozen predicates -/
structure Pd where
  pr : Hp → V → Prop
  mono : ∀ {H H' : Hp} {v : V}, Fzs H H' → pr H v → pr H' v
def pInt (i : Int) : Pd := ⟨fun _ v => v = .int i, fun _ h => h⟩
def pBl (b : Bool) : Pd := ⟨fun _ v => v = .bl b, fun _ h => h⟩
def pStr (x : Str) : Pd := ⟨fun _ v => v = .str x, fun _ h => h⟩
def pNon : Pd := ⟨fun _ v => v = .non, fun _ h => h⟩
def pV (u : V) : Pd := ⟨fun _ v => v = u, fun _ h => h⟩
def pUnit (_ : Unit) : Pd := pNon
def pOp {α : Type} (E : α → Pd) : Option α → Pd
  | none => pNon
  | some x => E x
theorem paired_mono {α β : Type} {P Q : α → β → Prop} : ∀ {l₁ : List α} {l₂ : List β}, (∀ a b, P a b → Q a b) → Paired P l₁ l₂ → Paired Q l₁ l₂
  | _, _, _, .nil => .nil
  | _, _, f, .cons r t => .cons (f _ _ r) (paired_mono f t)
def pL {α : Type} (E : α → Pd) (xs : List α) : Pd where
  pr H v := ∃ a o vs, v = .ref a ∧ H a = some (.frz o (.lst vs)) ∧ xs.length ≤ sizeLine ∧ Paired (fun x u => (E x).pr H u) xs vs
  mono := fun f ⟨a, o, vs, e, h, z, p⟩ => ⟨a, o, vs, e, f _ _ trivial h, z, paired_mono (fun x _ => (E x).mono f) p⟩
/-- a tuple of any length, of one kind -/
def pTL {α : Type} (E : α → Pd) (xs : List α) : Pd where
  pr H v := ∃ a vs, v = .ref a ∧ H a = some (.tup vs) ∧ xs.length ≤ sizeLine ∧ Paired (fun x u => (E x).pr H u) xs vs
  mono := fun f ⟨a, vs, e, h, z, p⟩ => ⟨a, vs, e, f _ _ trivial h, z, paired_mono (fun x _ => (E x).mono f) p⟩
def pT2 {α β : Type} (E : α → Pd) (G : β → Pd) (x : α × β) : Pd where
  pr H v := ∃ a u w, v = .ref a ∧ H a = some (.tup [u, w]) ∧ (E x.1).pr H u ∧ (G x.2).pr H w
  mono := fun f ⟨a, u, w, e, h, p, q⟩ => ⟨a, u, w, e, f _ _ trivial h, (E _).mono f p, (G _).mono f q⟩
def pT3 {α β γ : Type} (E : α → Pd) (G : β → Pd) (K : γ → Pd) (x : α × β × γ) : Pd where
  pr H v := ∃ a u w z, v = .ref a ∧ H a = some (.tup [u, w, z]) ∧ (E x.1).pr H u ∧ (G x.2.1).pr H w ∧ (K x.2.2).pr H z
  mono := fun f ⟨a, u, w, z, e, h, p, q, r⟩ => ⟨a, u, w, z, e, f _ _ trivial h, (E _).mono f p, (G _).mono f q, (K _).mono f r⟩
/-- a dict with text keys -/
def pD {α : Type} (E : α → Pd) (xs : List (Str × α)) : Pd where
  pr H v := ∃ a o kvs, v = .ref a ∧ H a = some (.frz o (.dK kvs)) ∧ xs.length ≤ sizeLine ∧ Paired (fun (x : Str × α) (u : Key × V) => u.1 = .inr x.1 ∧ (E x.2).pr H u.2) xs kvs
  mono := fun f ⟨a, o, vs, e, h, z, p⟩ => ⟨a, o, vs, e, f _ _ trivial h, z, paired_mono (fun x _ q => ⟨q.1, (E x.2).mono f q.2⟩) p⟩
/-- a dict with int keys -/
def pDI {α : Type} (E : α → Pd) (xs : List (Int × α)) : Pd where
  pr H v := ∃ a o kvs, v = .ref a ∧ H a = some (.frz o (.dK kvs)) ∧ xs.length ≤ sizeLine ∧ Paired (fun (x : Int × α) (u : Key × V) => u.1 = .inl x.1 ∧ (E x.2).pr H u.2) xs kvs
  mono := fun f ⟨a, o, vs, e, h, z, p⟩ => ⟨a, o, vs, e, f _ _ trivial h, z, paired_mono (fun x _ q => ⟨q.1, (E x.2).mono f q.2⟩) p⟩

theorem upd_dom {H : Hp} (p : Addr) (u : HO) : ∀ a o, H a = some o → ∃ z, upd H p u a = some z := fun a o e => by
  by_cases h : a = p
  · exact ⟨u, by rw [h, upd_same]⟩
  · exact ⟨o, by rw [upd_ne h, e]⟩
/-! ### what is owned: its cells are known exactly, and may be written -/
/-- the things at G are locked, one after the other -/
def tLk : List Addr → (Hp → Prop) → Hp → Prop
  | [], Φ, H => Φ H
  | d :: G, Φ, H => ∃ u, H d = some u ∧ Mut (some u) ∧ ∀ o, tLk G Φ (upd H d (.frz o u))
theorem tLk.mono {Φ Ψ : Hp → Prop} (f : ∀ H, Φ H → Ψ H) : ∀ {G : List Addr} {H : Hp}, tLk G Φ H → tLk G Ψ H
  | [], _, h => f _ h
  | _ :: _, _, ⟨u, h, m, k⟩ => ⟨u, h, m, fun o => tLk.mono f (k o)⟩
theorem inv_lk {X : Cx} {pins : List (Addr × Obj)} {σ : SS} {s : Shared} {Φ : Hp → Prop} : ∀ {G : List Addr} {H : Hp}, Inv X pins σ H s → tLk G Φ H → ∃ H', Inv X pins σ H' s ∧ Φ H'
  | [], H, I, h => ⟨H, I, h⟩
  | _ :: _, _, I, ⟨u, h, m, k⟩ => by
    obtain ⟨o, I'⟩ := I.lock h m
    exact inv_lk I' (k o)
structure Od where
  pr : List Addr → Hp → V → Prop
  pd : Pd
  frame : ∀ {G : List Addr} {H H' : Hp} {v : V}, pr G H v → (∀ a ∈ G, ∀ o, H a = some o → H' a = some o) → Fzs H H' → pr G H' v
  cells : ∀ {G : List Addr} {H : Hp} {v : V}, pr G H v → ∀ a ∈ G, ∃ o, H a = some o ∧ Mut (some o)
  lockd : ∀ {G : List Addr} {H H1 : Hp} {v : V}, pr G H v → (∀ a, a ∉ G → H1 a = H a) → (∀ a ∈ G, ∀ u, H a = some u → ∃ o, H1 a = some (.frz o u)) → pd.pr H1 v
theorem tLk_of {Φ : Hp → Prop} : ∀ {G : List Addr} {H : Hp}, G.Nodup → (∀ a ∈ G, ∃ u, H a = some u ∧ Mut (some u)) → (∀ H1, (∀ a, a ∉ G → H1 a = H a) → (∀ a ∈ G, ∀ u, H a = some u → ∃ o, H1 a = some (.frz o u)) → Φ H1) → tLk G Φ H
  | [], H, _, _, k => k H (fun _ _ => rfl) fun _ h => absurd h List.not_mem_nil
  | d :: G, H, nd, hm, k => by
    obtain ⟨nd1, nd2⟩ := List.nodup_cons.mp nd
    obtain ⟨u, hu, mu⟩ := hm d List.mem_cons_self
    refine ⟨u, hu, mu, fun o => tLk_of nd2 (fun a ha => ?_) fun H1 h1 h2 => k H1 (fun a ha => ?_) fun a ha w hw => ?_⟩
    · rw [upd_ne (fun e => nd1 (by rw [← e]; exact ha))]
      exact hm a (List.mem_cons_of_mem _ ha)
    · rw [h1 a (fun z => ha (List.mem_cons_of_mem _ z)), upd_ne (fun e => ha (by rw [e]; exact List.mem_cons_self))]
    · by_cases e : a = d
      · subst e
        rw [hu] at hw
        cases hw
        exact ⟨o, by rw [h1 a nd1, upd_same]⟩
      · rcases List.mem_cons.mp ha with z | z
        · exact absurd z e
        · exact h2 a z w (by rw [upd_ne e]; exact hw)
theorem Od.cellsN (d : Od) {G : List Addr} {H : Hp} {v : V} (h : d.pr G H v) : ∀ a ∈ G, ∃ o, H a = some o ∧ ¬ Pst o := fun a ha => by
  obtain ⟨o, e, m⟩ := d.cells h a ha
  exact ⟨o, e, Mut.npst m⟩
theorem Od.lock (d : Od) {G : List Addr} {H : Hp} {v : V} {Φ : Hp → Prop} (h : d.pr G H v) (nd : G.Nodup) (k : ∀ H', (∀ a, a ∉ G → H' a = H a) → (∀ a o, H a = some o → ∃ u, H' a = some u) → d.pd.pr H' v → Φ H') : tLk G Φ H :=
  tLk_of nd (d.cells h) fun H1 h1 h2 => k H1 h1 (fun a o e => by
    by_cases ha : a ∈ G
    · obtain ⟨q, hq⟩ := h2 a ha o e
      exact ⟨_, hq⟩
    · exact ⟨o, by rw [h1 a ha]; exact e⟩) (d.lockd h h1 h2)
theorem lk_fzs {G : List Addr} {H H1 : Hp} (hm : ∀ a ∈ G, ∃ o, H a = some o ∧ Mut (some o)) (h1 : ∀ a, a ∉ G → H1 a = H a) : Fzs H H1 := fun a o p e => by
  rw [h1 a fun ha => ?_]
  · exact e
  · obtain ⟨u, eu, m⟩ := hm a ha
    rw [e] at eu
    cases eu
    exact Mut.npst m p
theorem one_cells {p : Addr} {G : List Addr} {H : Hp} {u : HO} (eg : G = [p]) (h : H p = some u) (m : Mut (some u)) : ∀ a ∈ G, ∃ o, H a = some o ∧ Mut (some o) := fun a ha => by
  rw [eg] at ha
  rw [List.mem_singleton.mp ha]
  exact ⟨_, h, m⟩
def oL {α : Type} (E : α → Pd) (xs : List α) : Od where
  pr G H v := ∃ p vs, G = [p] ∧ v = .ref p ∧ H p = some (.lst vs) ∧ xs.length ≤ sizeLine ∧ Paired (fun x u => (E x).pr H u) xs vs
  pd := pL E xs
  frame := fun ⟨p, vs, eg, ev, h, z, q⟩ k f => ⟨p, vs, eg, ev, k p (by rw [eg]; exact List.mem_singleton.mpr rfl) _ h, z, paired_mono (fun x _ => (E x).mono f) q⟩
  cells := fun ⟨p, vs, eg, ev, h, z, q⟩ => one_cells eg h trivial
  lockd := fun ⟨p, vs, eg, ev, h, z, q⟩ h1 h2 => by
    obtain ⟨o, ho⟩ := h2 p (by rw [eg]; exact List.mem_singleton.mpr rfl) _ h
    exact ⟨p, o, vs, ev, ho, z, paired_mono (fun x _ => (E x).mono (lk_fzs (one_cells eg h trivial) h1)) q⟩
def oD {α : Type} (E : α → Pd) (xs : List (Str × α)) : Od where
  pr G H v := ∃ p kvs, G = [p] ∧ v = .ref p ∧ H p = some (.dK kvs) ∧ xs.length ≤ sizeLine ∧ Paired (fun (x : Str × α) (u : Key × V) => u.1 = .inr x.1 ∧ (E x.2).pr H u.2) xs kvs
  pd := pD E xs
  frame := fun ⟨p, vs, eg, ev, h, z, q⟩ k f => ⟨p, vs, eg, ev, k p (by rw [eg]; exact List.mem_singleton.mpr rfl) _ h, z, paired_mono (fun x _ q => ⟨q.1, (E x.2).mono f q.2⟩) q⟩
  cells := fun ⟨p, vs, eg, ev, h, z, q⟩ => one_cells eg h trivial
  lockd := fun ⟨p, vs, eg, ev, h, z, q⟩ h1 h2 => by
    obtain ⟨o, ho⟩ := h2 p (by rw [eg]; exact List.mem_singleton.mpr rfl) _ h
    exact ⟨p, o, vs, ev, ho, z, paired_mono (fun x _ q => ⟨q.1, (E x.2).mono (lk_fzs (one_cells eg h trivial) h1) q.2⟩) q⟩
def oDI {α : Type} (E : α → Pd) (xs : List (Int × α)) : Od where
  pr G H v := ∃ p kvs, G = [p] ∧ v = .ref p ∧ H p = some (.dK kvs) ∧ xs.length ≤ sizeLine ∧ Paired (fun (x : Int × α) (u : Key × V) => u.1 = .inl x.1 ∧ (E x.2).pr H u.2) xs kvs
  pd := pDI E xs
  frame := fun ⟨p, vs, eg, ev, h, z, q⟩ k f => ⟨p, vs, eg, ev, k p (by rw [eg]; exact List.mem_singleton.mpr rfl) _ h, z, paired_mono (fun x _ q => ⟨q.1, (E x.2).mono f q.2⟩) q⟩
  cells := fun ⟨p, vs, eg, ev, h, z, q⟩ => one_cells eg h trivial
  lockd := fun ⟨p, vs, eg, ev, h, z, q⟩ h1 h2 => by
    obtain ⟨o, ho⟩ := h2 p (by rw [eg]; exact List.mem_singleton.mpr rfl) _ h
    exact ⟨p, o, vs, ev, ho, z, paired_mono (fun x _ q => ⟨q.1, (E x.2).mono (lk_fzs (one_cells eg h trivial) h1) q.2⟩) q⟩

/-! ### where one stands -/
/-- a cell with the places that it owns -/
structure Cel where
  G : List Addr
  v : V
  d : Od
  prm : Option Nat
/-- .. the places left out: prm says which of the caller's things it is -/
structure Cell where
  v : V
  d : Od
  prm : Option Nat
def Cel.fg (c : Cel) : Cell := ⟨c.v, c.d, c.prm⟩
structure Fm where
  H0 : Hp
  M : List (List Addr)
abbrev Gm := List (Option Pd)
abbrev Δs := List Cell
def cellsOf (Δ : List Cel) : List Addr := Δ.flatMap Cel.G
structure HkO (F : Fm) (Δ : List Cel) (H : Hp) : Prop where
  base : ∀ a o, F.H0 a = some o → (∀ m ∈ F.M, a ∉ m) → H a = some o
  del : ∀ c ∈ Δ, c.d.pr c.G H c.v
  nod : (cellsOf Δ).Nodup
  own : ∀ c ∈ Δ, ∀ a ∈ c.G, F.H0 a = none ∨ ∃ i m, c.prm = some i ∧ F.M[i]? = some m ∧ a ∈ m
  mem : ∀ m ∈ F.M, ∀ a ∈ m, ∃ o, H a = some o
def Hk (F : Fm) (Δ : Δs) (H : Hp) : Prop := ∃ Δ0 : List Cel, Δ0.map Cel.fg = Δ ∧ HkO F Δ0 H
/-- the names -/
structure Nm (Γ : Gm) (σ : SS) (H : Hp) : Prop where
  len : σ.length = Γ.length
  gam : ∀ (i : Nat) (p : Pd), Γ[i]? = some (some p) → ∃ v, σ[i]? = some (some v) ∧ p.pr H v
theorem Nm.mono {Γ : Gm} {σ : SS} {H H' : Hp} (k : Nm Γ σ H) (f : Fzs H H') : Nm Γ σ H' := ⟨k.len, fun i p e => by
  obtain ⟨v, h, q⟩ := k.gam i p e
  exact ⟨v, h, p.mono f q⟩⟩
structure Ok (F : Fm) (Γ : Gm) (Δ : Δs) (σ : SS) (H : Hp) : Prop where
  hk : Hk F Δ H
  nm : Nm Γ σ H
theorem Ok.gam {F : Fm} {Γ : Gm} {Δ : Δs} {σ : SS} {H : Hp} (k : Ok F Γ Δ σ H) : ∀ (i : Nat) (p : Pd), Γ[i]? = some (some p) → ∃ v, σ[i]? = some (some v) ∧ p.pr H v := k.nm.gam
theorem Ok.len {F : Fm} {Γ : Gm} {Δ : Δs} {σ : SS} {H : Hp} (k : Ok F Γ Δ σ H) : σ.length = Γ.length := k.nm.len
theorem mem_cellsOf {Δ : List Cel} {c : Cel} {a : Addr} (h : c ∈ Δ) (ha : a ∈ c.G) : a ∈ cellsOf Δ := List.mem_flatMap.mpr ⟨c, h, ha⟩
theorem cellsOf_cons (c : Cel) (Δ : List Cel) : cellsOf (c :: Δ) = c.G ++ cellsOf Δ := by unfold cellsOf; rw [List.flatMap_cons]
theorem cellsOf_app (A B : List Cel) : cellsOf (A ++ B) = cellsOf A ++ cellsOf B := by unfold cellsOf; rw [List.flatMap_append]
theorem HkO.isC {F : Fm} {Δ : List Cel} {H : Hp} (k : HkO F Δ H) {a : Addr} (h : a ∈ cellsOf Δ) : ∃ o, H a = some o ∧ ¬ Pst o := by
  obtain ⟨c, hc, ha⟩ := List.mem_flatMap.mp h
  exact c.d.cellsN (k.del c hc) a ha
theorem HkO.gr {F : Fm} {Δ : List Cel} {H H' : Hp} (k : HkO F Δ H) (g : Gr H H') : HkO F Δ H' :=
  ⟨fun a o e m => g a o (k.base a o e m), fun c hc => c.d.frame (k.del c hc) (fun a _ o e => g a o e) g.fzs, k.nod, k.own, fun m hm a ha => (k.mem m hm a ha).imp fun o e => g a o e⟩
theorem Hk.gr {F : Fm} {Δ : Δs} {H H' : Hp} (k : Hk F Δ H) (g : Gr H H') : Hk F Δ H' := by
  obtain ⟨Δ0, e, k⟩ := k
  exact ⟨Δ0, e, k.gr g⟩
theorem Ok.gr {F : Fm} {Γ : Gm} {Δ : Δs} {σ : SS} {H H' : Hp} (k : Ok F Γ Δ σ H) (g : Gr H H') : Ok F Γ Δ σ H' := ⟨k.hk.gr g, k.nm.mono g.fzs⟩
/-- what is new now was not there at the start, or is a cell of the caller's -/
theorem HkO.fresh0 {F : Fm} {Δ : List Cel} {H : Hp} (k : HkO F Δ H) {a : Addr} (h : H a = none) : F.H0 a = none := by
  have hm : ∀ m ∈ F.M, a ∉ m := fun m hm z => by
    obtain ⟨o, e⟩ := k.mem m hm a z
    rw [h] at e; cases e
  cases e : F.H0 a with
  | none => rfl
  | some o => rw [k.base a o e hm] at h; cases h
/-- one cell more -/
theorem HkO.cons {F : Fm} {Δ : List Cel} {H : Hp} (k : HkO F Δ H) {c : Cel} (nd : c.G.Nodup) (nw : ∀ a ∈ c.G, a ∉ cellsOf Δ) (h : c.d.pr c.G H c.v) (ho : ∀ a ∈ c.G, F.H0 a = none ∨ ∃ i m, c.prm = some i ∧ F.M[i]? = some m ∧ a ∈ m) : HkO F (c :: Δ) H := by
  refine ⟨k.base, fun x hc => ?_, ?_, fun x hc a ha => ?_, k.mem⟩
  · rcases List.mem_cons.mp hc with e | hc
    · subst e; exact h
    · exact k.del x hc
  · rw [cellsOf_cons]
    refine List.nodup_append.mpr ⟨nd, k.nod, fun a ha b hb e => ?_⟩
    subst e
    exact nw a ha hb
  · rcases List.mem_cons.mp hc with e | hc
    · subst e; exact ho a ha
    · exact k.own x hc a ha
/-- a new cell -/
theorem HkO.add {F : Fm} {Δ : List Cel} {H H' : Hp} (k : HkO F Δ H) (g : Gr H H') {G : List Addr} {v : V} {d : Od} (nd : G.Nodup) (new : ∀ a ∈ G, H a = none) (h : d.pr G H' v) : HkO F (⟨G, v, d, none⟩ :: Δ) H' :=
  (k.gr g).cons (c := ⟨G, v, d, none⟩) nd (fun a ha hb => by
    obtain ⟨o, e, _⟩ := k.isC hb
    rw [new a ha] at e
    cases e) h fun a ha => .inl (k.fresh0 (new a ha))
/-- a new thing, made since H -/
def OkN (W : Bool) (F : Fm) (Γ : Gm) (H : Hp) (v : V) (d : Od) (Δ : Δs) (σ : SS) (H' : Hp) : Prop := ∃ (Δ0 : List Cel) (G : List Addr), Δ0.map Cel.fg = Δ ∧ HkO F (⟨G, v, d, none⟩ :: Δ0) H' ∧ (W = false → ∀ a ∈ G, H a = none) ∧ Nm Γ σ H'
theorem OkN.ok {W : Bool} {F : Fm} {Γ : Gm} {Δ : Δs} {σ : SS} {H H' : Hp} {v : V} {d : Od} (k : OkN W F Γ H v d Δ σ H') : Ok F Γ (⟨v, d, none⟩ :: Δ) σ H' := by
  obtain ⟨Δ0, G, e, k, _, n⟩ := k
  exact ⟨⟨_, by rw [List.map_cons, e]; rfl, k⟩, n⟩
theorem Ok.add {W : Bool} {F : Fm} {Γ : Gm} {Δ : Δs} {σ : SS} {H H' : Hp} (k : Ok F Γ Δ σ H) (g : Gr H H') {G : List Addr} {v : V} {d : Od} (nd : G.Nodup) (new : ∀ a ∈ G, H a = none) (h : d.pr G H' v) : OkN W F Γ H v d Δ σ H' := by
  obtain ⟨⟨Δ0, e, hk⟩, n⟩ := k
  exact ⟨Δ0, G, e, hk.add g nd new h, fun _ => new, n.mono g.fzs⟩
end L3
end
section
set_option Elab.async false
set_option linter.all false
set_option maxRecDepth 100000
set_option maxHeartbeats 4000000
set_option autoImplicit true
namespace L3
open PySem PySem.Spec PyProof.Rows L2

/-! ### mirrors -/
def grd {γ : Type} (c : Prop) [Decidable c] (x : Option γ) : Option γ := if c then x else none
theorem grd_some {γ : Type} {c : Prop} [Decidable c] {x : Option γ} {g : γ} (h : grd c x = some g) : c ∧ x = some g := by
  unfold grd at h
  by_cases q : c
  · rw [if_pos q] at h; exact ⟨q, h⟩
  · rw [if_neg q] at h; cases h
theorem bind_some {α γ : Type} {m : Option α} {k : α → Option γ} {g : γ} (h : m.bind k = some g) : ∃ a, m = some a ∧ k a = some g := by
  cases m with
  | none => cases h
  | some a => exact ⟨a, rfl, h⟩

/-- from one heap to the next: what never changes stands; W says whether cells may have been written -/
structure St (W : Bool) (H H' : Hp) : Prop where
  fz : Fzs H H'
  kp : W = false → Gr H H'
  dom : ∀ a o, H a = some o → ∃ u, H' a = some u
theorem St.refl {W : Bool} (H : Hp) : St W H H := ⟨Fzs.refl H, fun _ => Gr.refl H, fun _ o h => ⟨o, h⟩⟩
theorem St.trans {W : Bool} {H H1 H2 : Hp} (a : St W H H1) (b : St W H1 H2) : St W H H2 := ⟨a.fz.trans b.fz, fun n => (a.kp n).trans (b.kp n), fun x o h => by
  obtain ⟨u, e⟩ := a.dom x o h
  exact b.dom x u e⟩
theorem St.back {W : Bool} {H H' : Hp} (s : St W H H') {a : Addr} (h : H' a = none) : H a = none := by
  cases e : H a with
  | none => rfl
  | some o =>
    obtain ⟨u, q⟩ := s.dom a o e
    rw [h] at q; cases q
theorem Gr.st {W : Bool} {H H' : Hp} (g : Gr H H') : St W H H' := ⟨g.fzs, fun _ => g, fun a o h => ⟨o, g a o h⟩⟩
theorem St.gr {H H' : Hp} (s : St false H H') : Gr H H' := s.kp rfl
theorem OkN.since {F : Fm} {Γ : Gm} {Δ : Δs} {σ : SS} {H0 H H' : Hp} {v : V} {d : Od} {W : Bool} (k : OkN W F Γ H v d Δ σ H') (s : St W H0 H) : OkN W F Γ H0 v d Δ σ H' := by
  obtain ⟨Δ0, G, e, k, nw, n⟩ := k
  exact ⟨Δ0, G, e, k, fun hw a ha => s.back (nw hw a ha), n⟩
/-! ### judgements -/
def tE {β γ : Type} (W : Bool) (F : Fm) (Γ : Gm) (Δ : Δs) (T : Option γ) (k : β → Option γ) (E : β → Pd) (Δ' : β → Δs) : TE := fun σ H Q =>
  Ok F Γ Δ σ H ∧ ∃ g, T = some g ∧ ∀ b v H', k b = some g → St W H H' → Ok F Γ (Δ' b) σ H' → (E b).pr H' v → Q v H'
def tO {β γ : Type} (W : Bool) (F : Fm) (Γ : Gm) (Δ : Δs) (T : Option γ) (k : β → Option γ) (D : β → Od) (Δ' : β → Δs) : TE := fun σ H Q =>
  Ok F Γ Δ σ H ∧ ∃ g, T = some g ∧ ∀ b v H', k b = some g → St W H H' → OkN W F Γ H v (D b) (Δ' b) σ H' → Q v H'
def tAr {β γ : Type} (W : Bool) (F : Fm) (Γ : Gm) (Δ : Δs) (T : Option γ) (k : β → Option γ) (Es : β → List Pd) (Δ' : β → Δs) : TA := fun σ H Q =>
  Ok F Γ Δ σ H ∧ ∃ g, T = some g ∧ ∀ b vs H', k b = some g → St W H H' → Ok F Γ (Δ' b) σ H' → Paired (fun p v => Pd.pr p H' v) (Es b) vs → Q vs H'
def tTs {β γ : Type} (W : Bool) (F : Fm) (Γ : Gm) (Δ : Δs) (T : Option γ) (k : β → Option γ) (c : β → Bool) (Δ' : β → Δs) : TT := fun σ H Q =>
  Ok F Γ Δ σ H ∧ ∃ g, T = some g ∧ ∀ b H', k b = some g → St W H H' → Ok F Γ (Δ' b) σ H' → Q (c b) H'
/-- what the mirror's end says of a block's end -/
structure Fn (γ : Type) where
  fin : Hp → γ → Ends → Prop
  mono : ∀ {H H' : Hp} {g : γ} {D : Ends}, fin H g D → Fzs H H' → fin H' g D
def tS {γ : Type} (F : Fm) (Γ : Gm) (Δ : Δs) (N : Fn γ) (T : Option γ) : TS := fun D σ H => Ok F Γ Δ σ H ∧ ∃ g, T = some g ∧ N.fin H g D

section
variable {X : Cx}
theorem _root_.L2.PE.wk {e : Expr} {t t' : TE} (h : PE X e t) (w : ∀ σ H Q, t' σ H Q → t σ H Q) : PE X e t' := ⟨fun pins s σ H Q I q => h.run pins s σ H Q I (w σ H Q q)⟩
theorem _root_.L2.PA.wk {e : List Expr} {t t' : TA} (h : PA X e t) (w : ∀ σ H Q, t' σ H Q → t σ H Q) : PA X e t' := ⟨fun p pins s σ H Q I q => h.run p pins s σ H Q I (w σ H Q q)⟩
theorem _root_.L2.PT.wk {e : Expr} {t t' : TT} (h : PT X e t) (w : ∀ σ H Q, t' σ H Q → t σ H Q) : PT X e t' := ⟨fun pins s σ H Q I q => h.run pins s σ H Q I (w σ H Q q)⟩
theorem _root_.L2.PW.wk {e : Expr} {t t' : TT} (h : PW X e t) (w : ∀ σ H Q, t' σ H Q → t σ H Q) : PW X e t' := ⟨fun wh pins s σ H Q I q => h.run wh pins s σ H Q I (w σ H Q q)⟩
theorem _root_.L2.PSs.wk {e : List Stmt} {t t' : TS} (h : PSs X e t) (w : ∀ D σ H, t' D σ H → t D σ H) : PSs X e t' := ⟨fun pins s σ H D I q => h.run pins s σ H D I (w D σ H q)⟩
theorem _root_.L2.PS.wk {e : Stmt} {t t' : TS} (h : PS X e t) (w : ∀ D σ H, t' D σ H → t D σ H) : PS X e t' := ⟨fun pins s σ H D I q => h.run pins s σ H D I (w D σ H q)⟩
theorem pe_ex {β : Type} {e : Expr} {t : β → TE} (h : ∀ b, PE X e (t b)) : PE X e (fun σ H Q => ∃ b, t b σ H Q) := ⟨fun pins s σ H Q I ⟨b, q⟩ => (h b).run pins s σ H Q I q⟩
theorem pa_ex {β : Type} {e : List Expr} {t : β → TA} (h : ∀ b, PA X e (t b)) : PA X e (fun σ H Q => ∃ b, t b σ H Q) := ⟨fun p pins s σ H Q I ⟨b, q⟩ => (h b).run p pins s σ H Q I q⟩
theorem pt_ex {β : Type} {e : Expr} {t : β → TT} (h : ∀ b, PT X e (t b)) : PT X e (fun σ H Q => ∃ b, t b σ H Q) := ⟨fun pins s σ H Q I ⟨b, q⟩ => (h b).run pins s σ H Q I q⟩
theorem pw_ex {β : Type} {e : Expr} {t : β → TT} (h : ∀ b, PW X e (t b)) : PW X e (fun σ H Q => ∃ b, t b σ H Q) := ⟨fun wh pins s σ H Q I ⟨b, q⟩ => (h b).run wh pins s σ H Q I q⟩
theorem pss_ex {β : Type} {e : List Stmt} {t : β → TS} (h : ∀ b, PSs X e (t b)) : PSs X e (fun D σ H => ∃ b, t b D σ H) := ⟨fun pins s σ H D I ⟨b, q⟩ => (h b).run pins s σ H D I q⟩

variable {W : Bool} {F : Fm} {Γ : Gm} {Δ : Δs} {γ : Type}

/-! ### names, constants -/
theorem x_var (i : Nat) {x : Str} {pos : Pos} {p : Pd} {k : Unit → Option γ} (h : Γ[i]? = some (some p) := by rfl) (hN : X.N[i]? = some x := by rfl) (hv : Vis X.env.scope x := by first | exact Or.inl rfl | exact Or.inr (Or.inl rfl) | exact Or.inr (Or.inr rfl))
    (hd : (x == ("__debug__" : Str)) = false := by decide) (hcd : (x == ("__classdict__" : Str)) = false := by decide) : PE X (.Name x pos) (tE W F Γ Δ (k ()) k (fun _ => p) fun _ => Δ) :=
  (pe_var hN hv hd hcd).wk fun σ H Q ⟨ok, g, e, q⟩ => by
    obtain ⟨v, hs, hp⟩ := ok.gam i p h
    exact ⟨v, hs, q () v H e (St.refl H) ok hp⟩
theorem x_c {e : Expr} {v : V} {p : Pd} {k : Unit → Option γ} (he : PE X e (tC v)) (hp : ∀ H, p.pr H v) : PE X e (tE W F Γ Δ (k ()) k (fun _ => p) fun _ => Δ) :=
  he.wk fun σ H Q ⟨ok, g, e, q⟩ => q () v H e (St.refl H) ok (hp H)
theorem x_int {i : Int} {j pos} {k : Unit → Option γ} : PE X (.Constant (.int i) j pos) (tE W F Γ Δ (k ()) k (fun _ => pInt i) fun _ => Δ) := x_c pe_int fun _ => rfl
theorem x_bl {i : Bool} {j pos} {k : Unit → Option γ} : PE X (.Constant (.bool i) j pos) (tE W F Γ Δ (k ()) k (fun _ => pBl i) fun _ => Δ) := x_c pe_bl fun _ => rfl
theorem x_str {i : Str} {j pos} {k : Unit → Option γ} : PE X (.Constant (.str i) j pos) (tE W F Γ Δ (k ()) k (fun _ => pStr i) fun _ => Δ) := x_c pe_str fun _ => rfl
theorem x_non {j pos} {k : Unit → Option γ} : PE X (.Constant .none j pos) (tE W F Γ Δ (k ()) k (fun _ => pNon) fun _ => Δ) := x_c pe_non fun _ => rfl
/-- the value's kind said otherwise -/
theorem x_co {β : Type} {e : Expr} {T : Option γ} {k : β → Option γ} {E : β → Pd} {Δ' : β → Δs} (E' : β → Pd) (he : PE X e (tE W F Γ Δ T k E Δ')) (h : ∀ b H v, (E b).pr H v → (E' b).pr H v) : PE X e (tE W F Γ Δ T k E' Δ') :=
  he.wk fun σ H Q ⟨ok, g, e, q⟩ => ⟨ok, g, e, fun b v H' kb f ok' hv => q b v H' kb f ok' (h b H' v hv)⟩

/-! ### two operands -/
def Bin2 (X : Cx) (e a b : Expr) (r : R2) : Prop := ∀ ta tb, PE X a ta → PE X b tb → PE X e (tOp r ta tb)
theorem b_op {op : Operator} {r : R2} {a b : Expr} {pos : Pos} (ho : OpR X (binaryOp op) r) : Bin2 X (.BinOp a op b pos) a b r := fun _ _ ha hb => pe_op ho ha hb
theorem b_cmp {op : CmpOp} {r : R2} {a b : Expr} {pos : Pos} (ho : OpR X (compareOp op) r) (hm : behindInMarks op b = false) : Bin2 X (.Compare a [op] [b] pos) a b r := fun _ _ ha hb => pe_cmpR ho ha hb hm
theorem b_ix {r : R2} {a b : Expr} {pos : Pos} (ho : IxR X r) (hs : PlainIx b) : Bin2 X (.Subscript a b pos) a b r := fun _ _ ha hb => pe_ix ho ha hb hs
section
variable {e a b : Expr} {r : R2} {β1 β2 : Type} {T : Option γ} {k1 : β1 → Option γ} {k2 : β1 → β2 → Option γ} {E1 : β1 → Pd} {E2 : β1 → β2 → Pd} {Δ1 : β1 → Δs} {Δ2 : β1 → β2 → Δs}
/-- the common part -/
theorem x2_core {t' : TE} (h2 : Bin2 X e a b r) (ha : PE X a (tE W F Γ Δ T k1 E1 Δ1)) (hb : ∀ b1, PE X b (tE W F Γ (Δ1 b1) (k1 b1) (k2 b1) (E2 b1) (Δ2 b1)))
    (hw : ∀ σ H Q, t' σ H Q → Ok F Γ Δ σ H ∧ ∃ g, T = some g ∧ ∀ b1 b2 v w H2, k2 b1 b2 = some g → St W H H2 → Ok F Γ (Δ2 b1 b2) σ H2 → (E1 b1).pr H2 v → (E2 b1 b2).pr H2 w → r v w H2 Q) : PE X e t' :=
  (h2 _ _ ha (pe_ex hb)).wk fun σ H Q h => by
    obtain ⟨ok, g, e, q⟩ := hw σ H Q h
    exact ⟨ok, g, e, fun b1 v H1 kb f1 ok1 hv => ⟨b1, ok1, g, kb, fun b2 w H2 kb2 f2 ok2 hw => q b1 b2 v w H2 kb2 (f1.trans f2) ok2 ((E1 b1).mono f2.fz hv) hw⟩⟩
/-- the operation always goes, and lays nothing -/
theorem x2t {E : β1 × β2 → Pd} {k : β1 × β2 → Option γ} (h2 : Bin2 X e a b r) (ha : PE X a (tE W F Γ Δ T k1 E1 Δ1)) (hb : ∀ b1, PE X b (tE W F Γ (Δ1 b1) (k1 b1) (fun b2 => k (b1, b2)) (E2 b1) (Δ2 b1)))
    (hv : ∀ b1 b2 σ v w H Q, Ok F Γ (Δ2 b1 b2) σ H → (E1 b1).pr H v → (E2 b1 b2).pr H w → (∀ u, (E (b1, b2)).pr H u → Q u H) → r v w H Q) : PE X e (tE W F Γ Δ T k E fun b => Δ2 b.1 b.2) :=
  x2_core h2 ha hb fun σ H Q ⟨ok, g, e, q⟩ => ⟨ok, g, e, fun b1 b2 v w H2 kb f ok2 hv1 hv2 => hv b1 b2 σ v w H2 Q ok2 hv1 hv2 fun u hu => q (b1, b2) u H2 kb f ok2 hu⟩
/-- .. under a condition -/
theorem x2g {E : β1 × β2 → Pd} {k : β1 × β2 → Option γ} {c : β1 → β2 → Prop} [∀ b1 b2, Decidable (c b1 b2)] (h2 : Bin2 X e a b r) (ha : PE X a (tE W F Γ Δ T k1 E1 Δ1)) (hb : ∀ b1, PE X b (tE W F Γ (Δ1 b1) (k1 b1) (fun b2 => grd (c b1 b2) (k (b1, b2))) (E2 b1) (Δ2 b1)))
    (hv : ∀ b1 b2 σ v w H Q, Ok F Γ (Δ2 b1 b2) σ H → c b1 b2 → (E1 b1).pr H v → (E2 b1 b2).pr H w → (∀ u, (E (b1, b2)).pr H u → Q u H) → r v w H Q) : PE X e (tE W F Γ Δ T k E fun b => Δ2 b.1 b.2) :=
  x2_core h2 ha hb fun σ H Q ⟨ok, g, e, q⟩ => ⟨ok, g, e, fun b1 b2 v w H2 kb f ok2 hv1 hv2 => hv b1 b2 σ v w H2 Q ok2 (grd_some kb).1 hv1 hv2 fun u hu => q (b1, b2) u H2 (grd_some kb).2 f ok2 hu⟩
/-- .. with what is found -/
theorem x2p {β3 : Type} {E : (β1 × β2) × β3 → Pd} {k : (β1 × β2) × β3 → Option γ} {m : β1 → β2 → Option β3} (h2 : Bin2 X e a b r) (ha : PE X a (tE W F Γ Δ T k1 E1 Δ1))
    (hb : ∀ b1, PE X b (tE W F Γ (Δ1 b1) (k1 b1) (fun b2 => (m b1 b2).bind fun b3 => k ((b1, b2), b3)) (E2 b1) (Δ2 b1)))
    (hv : ∀ b1 b2 b3 σ v w H Q, Ok F Γ (Δ2 b1 b2) σ H → m b1 b2 = some b3 → (E1 b1).pr H v → (E2 b1 b2).pr H w → (∀ u, (E ((b1, b2), b3)).pr H u → Q u H) → r v w H Q) : PE X e (tE W F Γ Δ T k E fun b => Δ2 b.1.1 b.1.2) :=
  x2_core h2 ha hb fun σ H Q ⟨ok, g, e, q⟩ => ⟨ok, g, e, fun b1 b2 v w H2 kb f ok2 hv1 hv2 => by
    obtain ⟨b3, e3, kb3⟩ := bind_some kb
    exact hv b1 b2 b3 σ v w H2 Q ok2 e3 hv1 hv2 fun u hu => q ((b1, b2), b3) u H2 kb3 f ok2 hu⟩
end
/-! ### comparisons as tests -/
def Bin2T (X : Cx) (e a b : Expr) (r : R2) : Prop := ∀ ta tb, PE X a ta → PE X b tb → PT X e (tTest (tOp r ta tb))
theorem bt_cmp {op : CmpOp} {r : R2} {a b : Expr} {pos : Pos} (ho : OpR X (compareOp op) r) (hm : behindInMarks op b = false) : Bin2T X (.Compare a [op] [b] pos) a b r := fun _ _ ha hb => pt_cmpR ho ha hb hm
section
variable {e a b : Expr} {r : R2} {β1 β2 : Type} {T : Option γ} {k1 : β1 → Option γ} {k2 : β1 → β2 → Option γ} {E1 : β1 → Pd} {E2 : β1 → β2 → Pd} {Δ1 : β1 → Δs} {Δ2 : β1 → β2 → Δs}
theorem t2_core {t' : TT} (h2 : Bin2T X e a b r) (ha : PE X a (tE W F Γ Δ T k1 E1 Δ1)) (hb : ∀ b1, PE X b (tE W F Γ (Δ1 b1) (k1 b1) (k2 b1) (E2 b1) (Δ2 b1)))
    (hw : ∀ σ H Q, t' σ H Q → Ok F Γ Δ σ H ∧ ∃ g, T = some g ∧ ∀ b1 b2 v w H2, k2 b1 b2 = some g → St W H H2 → Ok F Γ (Δ2 b1 b2) σ H2 → (E1 b1).pr H2 v → (E2 b1 b2).pr H2 w → r v w H2 (fun x H' => ∃ k, x = .bl k ∧ Q k H')) : PT X e t' :=
  (h2 _ _ ha (pe_ex hb)).wk fun σ H Q h => by
    obtain ⟨ok, g, e, q⟩ := hw σ H Q h
    exact ⟨ok, g, e, fun b1 v H1 kb f1 ok1 hv => ⟨b1, ok1, g, kb, fun b2 w H2 kb2 f2 ok2 hw => q b1 b2 v w H2 kb2 (f1.trans f2) ok2 ((E1 b1).mono f2.fz hv) hw⟩⟩
theorem t2t {c : β1 × β2 → Bool} {k : β1 × β2 → Option γ} (h2 : Bin2T X e a b r) (ha : PE X a (tE W F Γ Δ T k1 E1 Δ1)) (hb : ∀ b1, PE X b (tE W F Γ (Δ1 b1) (k1 b1) (fun b2 => k (b1, b2)) (E2 b1) (Δ2 b1)))
    (hv : ∀ b1 b2 σ v w H Q, Ok F Γ (Δ2 b1 b2) σ H → (E1 b1).pr H v → (E2 b1 b2).pr H w → (∀ u, (pBl (c (b1, b2))).pr H u → Q u H) → r v w H Q) : PT X e (tTs W F Γ Δ T k c fun b => Δ2 b.1 b.2) :=
  t2_core h2 ha hb fun σ H Q ⟨ok, g, e, q⟩ => ⟨ok, g, e, fun b1 b2 v w H2 kb f ok2 hv1 hv2 => hv b1 b2 σ v w H2 _ ok2 hv1 hv2 fun u hu => ⟨c (b1, b2), hu, q (b1, b2) H2 kb f ok2⟩⟩
end
/-! ### ints -/
section
variable {a b : Expr} {pos : Pos} {β1 β2 : Type} {T : Option γ} {k1 : β1 → Option γ} {k : β1 × β2 → Option γ} {Δ1 : β1 → Δs} {Δ2 : β1 → β2 → Δs} {i : β1 → Int} {j : β1 → β2 → Int}
theorem x_add (ha : PE X a (tE W F Γ Δ T k1 (fun b => pInt (i b)) Δ1)) (hb : ∀ b1, PE X b (tE W F Γ (Δ1 b1) (k1 b1) (fun b2 => k (b1, b2)) (fun b => pInt (j b1 b)) (Δ2 b1))) :
    PE X (.BinOp a .Add b pos) (tE W F Γ Δ T k (fun b => pInt (i b.1 + j b.1 b.2)) fun b => Δ2 b.1 b.2) :=
  x2t (b_op op_add) ha hb fun b1 b2 _ v w H Q _ hv hw q => ⟨i b1, j b1 b2, hv, hw, q _ rfl⟩
theorem x_sub (ha : PE X a (tE W F Γ Δ T k1 (fun b => pInt (i b)) Δ1)) (hb : ∀ b1, PE X b (tE W F Γ (Δ1 b1) (k1 b1) (fun b2 => k (b1, b2)) (fun b => pInt (j b1 b)) (Δ2 b1))) :
    PE X (.BinOp a .Sub b pos) (tE W F Γ Δ T k (fun b => pInt (i b.1 - j b.1 b.2)) fun b => Δ2 b.1 b.2) :=
  x2t (b_op op_sub) ha hb fun b1 b2 _ v w H Q _ hv hw q => ⟨i b1, j b1 b2, hv, hw, q _ rfl⟩
/-- within 64 bits -/
def sm (i : Int) : Bool := decide (-(2 ^ 64) < i) && decide (i < 2 ^ 64)
theorem sm_ok {i : Int} (h : sm i = true) : -(2 ^ 64) < i ∧ i < 2 ^ 64 := by
  obtain ⟨a, b⟩ := Bool.and_eq_true_iff.mp h
  exact ⟨of_decide_eq_true a, of_decide_eq_true b⟩
theorem x_mul (ha : PE X a (tE W F Γ Δ T k1 (fun b => pInt (i b)) Δ1)) (hb : ∀ b1, PE X b (tE W F Γ (Δ1 b1) (k1 b1) (fun b2 => grd ((sm (i b1) || sm (j b1 b2)) = true) (k (b1, b2))) (fun b => pInt (j b1 b)) (Δ2 b1))) :
    PE X (.BinOp a .Mult b pos) (tE W F Γ Δ T k (fun b => pInt (i b.1 * j b.1 b.2)) fun b => Δ2 b.1 b.2) :=
  x2g (b_op op_mul) ha hb fun b1 b2 _ v w H Q _ c hv hw q => ⟨i b1, j b1 b2, hv, hw, by
    rcases Bool.or_eq_true_iff.mp c with h | h
    · exact .inl (sm_ok h)
    · exact .inr (sm_ok h), q _ rfl⟩
theorem x_mod (ha : PE X a (tE W F Γ Δ T k1 (fun b => pInt (i b)) Δ1)) (hb : ∀ b1, PE X b (tE W F Γ (Δ1 b1) (k1 b1) (fun b2 => grd (0 < j b1 b2) (k (b1, b2))) (fun b => pInt (j b1 b)) (Δ2 b1))) :
    PE X (.BinOp a .Mod b pos) (tE W F Γ Δ T k (fun b => pInt (i b.1 % j b.1 b.2)) fun b => Δ2 b.1 b.2) :=
  x2g (b_op op_mod) ha hb fun b1 b2 _ v w H Q _ c hv hw q => ⟨i b1, j b1 b2, hv, hw, c, q _ rfl⟩
def dv (j : Int) : Bool := decide (0 < j) && decide (j < 1073741824)
theorem x_fdiv (ha : PE X a (tE W F Γ Δ T k1 (fun b => pInt (i b)) Δ1)) (hb : ∀ b1, PE X b (tE W F Γ (Δ1 b1) (k1 b1) (fun b2 => grd (dv (j b1 b2) = true) (k (b1, b2))) (fun b => pInt (j b1 b)) (Δ2 b1))) :
    PE X (.BinOp a .FloorDiv b pos) (tE W F Γ Δ T k (fun b => pInt (i b.1 / j b.1 b.2)) fun b => Δ2 b.1 b.2) :=
  x2g (b_op op_fdiv) ha hb fun b1 b2 _ v w H Q _ c hv hw q => ⟨i b1, j b1 b2, hv, hw, by
    obtain ⟨h1, h2⟩ := Bool.and_eq_true_iff.mp c
    exact ⟨of_decide_eq_true h1, of_decide_eq_true h2⟩, q _ rfl⟩
theorem x_pow (ha : PE X a (tE W F Γ Δ T k1 (fun b => pInt (i b)) Δ1)) (hb : ∀ b1, PE X b (tE W F Γ (Δ1 b1) (k1 b1) (fun b2 => k (b1, b2)) (fun b => pInt (j b1 b)) (Δ2 b1))) (hc : ∀ b1 b2, 0 ≤ j b1 b2 ∧ j b1 b2 ≤ 1000000 ∧ (i b1).natAbs < 2 ^ 64) :
    PE X (.BinOp a .Pow b pos) (tE W F Γ Δ T k (fun b => pInt (i b.1 ^ (j b.1 b.2).toNat)) fun b => Δ2 b.1 b.2) :=
  x2t (b_op op_pow) ha hb fun b1 b2 _ v w H Q _ hv hw q => ⟨i b1, j b1 b2, hv, hw, hc b1 b2, q _ rfl⟩
theorem x_lt (ha : PE X a (tE W F Γ Δ T k1 (fun b => pInt (i b)) Δ1)) (hb : ∀ b1, PE X b (tE W F Γ (Δ1 b1) (k1 b1) (fun b2 => k (b1, b2)) (fun b => pInt (j b1 b)) (Δ2 b1))) :
    PE X (.Compare a [.Lt] [b] pos) (tE W F Γ Δ T k (fun b => pBl (decide (i b.1 < j b.1 b.2))) fun b => Δ2 b.1 b.2) :=
  x2t (b_cmp op_lt (nomark _)) ha hb fun b1 b2 _ v w H Q _ hv hw q => ⟨i b1, j b1 b2, hv, hw, q _ rfl⟩
theorem x_le (ha : PE X a (tE W F Γ Δ T k1 (fun b => pInt (i b)) Δ1)) (hb : ∀ b1, PE X b (tE W F Γ (Δ1 b1) (k1 b1) (fun b2 => k (b1, b2)) (fun b => pInt (j b1 b)) (Δ2 b1))) :
    PE X (.Compare a [.LtE] [b] pos) (tE W F Γ Δ T k (fun b => pBl (decide (i b.1 ≤ j b.1 b.2))) fun b => Δ2 b.1 b.2) :=
  x2t (b_cmp op_le (nomark _)) ha hb fun b1 b2 _ v w H Q _ hv hw q => ⟨i b1, j b1 b2, hv, hw, q _ rfl⟩
theorem x_gt (ha : PE X a (tE W F Γ Δ T k1 (fun b => pInt (i b)) Δ1)) (hb : ∀ b1, PE X b (tE W F Γ (Δ1 b1) (k1 b1) (fun b2 => k (b1, b2)) (fun b => pInt (j b1 b)) (Δ2 b1))) :
    PE X (.Compare a [.Gt] [b] pos) (tE W F Γ Δ T k (fun b => pBl (decide (j b.1 b.2 < i b.1))) fun b => Δ2 b.1 b.2) :=
  x2t (b_cmp op_gt (nomark _)) ha hb fun b1 b2 _ v w H Q _ hv hw q => ⟨i b1, j b1 b2, hv, hw, q _ rfl⟩
theorem x_ge (ha : PE X a (tE W F Γ Δ T k1 (fun b => pInt (i b)) Δ1)) (hb : ∀ b1, PE X b (tE W F Γ (Δ1 b1) (k1 b1) (fun b2 => k (b1, b2)) (fun b => pInt (j b1 b)) (Δ2 b1))) :
    PE X (.Compare a [.GtE] [b] pos) (tE W F Γ Δ T k (fun b => pBl (decide (j b.1 b.2 ≤ i b.1))) fun b => Δ2 b.1 b.2) :=
  x2t (b_cmp op_ge (nomark _)) ha hb fun b1 b2 _ v w H Q _ hv hw q => ⟨i b1, j b1 b2, hv, hw, q _ rfl⟩
theorem x_eqI (ha : PE X a (tE W F Γ Δ T k1 (fun b => pInt (i b)) Δ1)) (hb : ∀ b1, PE X b (tE W F Γ (Δ1 b1) (k1 b1) (fun b2 => k (b1, b2)) (fun b => pInt (j b1 b)) (Δ2 b1))) :
    PE X (.Compare a [.Eq] [b] pos) (tE W F Γ Δ T k (fun b => pBl (decide (i b.1 = j b.1 b.2))) fun b => Δ2 b.1 b.2) :=
  x2t (b_cmp op_eq (nomark _)) ha hb fun b1 b2 _ v w H Q _ hv hw q => by
    cases hv; cases hw
    refine ⟨rfl, q _ ?_⟩
    show V.bl _ = V.bl _
    congr 1
    by_cases z : i b1 = j b1 b2
    · rw [z]; simp
    · rw [decide_eq_false z, decide_eq_false fun y => z (V.int.inj y)]
theorem x_neI (ha : PE X a (tE W F Γ Δ T k1 (fun b => pInt (i b)) Δ1)) (hb : ∀ b1, PE X b (tE W F Γ (Δ1 b1) (k1 b1) (fun b2 => k (b1, b2)) (fun b => pInt (j b1 b)) (Δ2 b1))) :
    PE X (.Compare a [.NotEq] [b] pos) (tE W F Γ Δ T k (fun b => pBl (!decide (i b.1 = j b.1 b.2))) fun b => Δ2 b.1 b.2) :=
  x2t (b_cmp op_ne (nomark _)) ha hb fun b1 b2 _ v w H Q _ hv hw q => by
    cases hv; cases hw
    refine ⟨rfl, q _ ?_⟩
    show V.bl _ = V.bl _
    congr 1
    by_cases z : i b1 = j b1 b2
    · rw [z]; simp
    · rw [decide_eq_false z, decide_eq_false fun y => z (V.int.inj y)]
theorem t_lt (ha : PE X a (tE W F Γ Δ T k1 (fun b => pInt (i b)) Δ1)) (hb : ∀ b1, PE X b (tE W F Γ (Δ1 b1) (k1 b1) (fun b2 => k (b1, b2)) (fun b => pInt (j b1 b)) (Δ2 b1))) :
    PT X (.Compare a [.Lt] [b] pos) (tTs W F Γ Δ T k (fun b => decide (i b.1 < j b.1 b.2)) fun b => Δ2 b.1 b.2) :=
  t2t (bt_cmp op_lt (nomark _)) ha hb fun b1 b2 _ v w H Q _ hv hw q => ⟨i b1, j b1 b2, hv, hw, q _ rfl⟩
theorem t_le (ha : PE X a (tE W F Γ Δ T k1 (fun b => pInt (i b)) Δ1)) (hb : ∀ b1, PE X b (tE W F Γ (Δ1 b1) (k1 b1) (fun b2 => k (b1, b2)) (fun b => pInt (j b1 b)) (Δ2 b1))) :
    PT X (.Compare a [.LtE] [b] pos) (tTs W F Γ Δ T k (fun b => decide (i b.1 ≤ j b.1 b.2)) fun b => Δ2 b.1 b.2) :=
  t2t (bt_cmp op_le (nomark _)) ha hb fun b1 b2 _ v w H Q _ hv hw q => ⟨i b1, j b1 b2, hv, hw, q _ rfl⟩
theorem t_gt (ha : PE X a (tE W F Γ Δ T k1 (fun b => pInt (i b)) Δ1)) (hb : ∀ b1, PE X b (tE W F Γ (Δ1 b1) (k1 b1) (fun b2 => k (b1, b2)) (fun b => pInt (j b1 b)) (Δ2 b1))) :
    PT X (.Compare a [.Gt] [b] pos) (tTs W F Γ Δ T k (fun b => decide (j b.1 b.2 < i b.1)) fun b => Δ2 b.1 b.2) :=
  t2t (bt_cmp op_gt (nomark _)) ha hb fun b1 b2 _ v w H Q _ hv hw q => ⟨i b1, j b1 b2, hv, hw, q _ rfl⟩
theorem t_ge (ha : PE X a (tE W F Γ Δ T k1 (fun b => pInt (i b)) Δ1)) (hb : ∀ b1, PE X b (tE W F Γ (Δ1 b1) (k1 b1) (fun b2 => k (b1, b2)) (fun b => pInt (j b1 b)) (Δ2 b1))) :
    PT X (.Compare a [.GtE] [b] pos) (tTs W F Γ Δ T k (fun b => decide (j b.1 b.2 ≤ i b.1)) fun b => Δ2 b.1 b.2) :=
  t2t (bt_cmp op_ge (nomark _)) ha hb fun b1 b2 _ v w H Q _ hv hw q => ⟨i b1, j b1 b2, hv, hw, q _ rfl⟩
theorem t_eqI (ha : PE X a (tE W F Γ Δ T k1 (fun b => pInt (i b)) Δ1)) (hb : ∀ b1, PE X b (tE W F Γ (Δ1 b1) (k1 b1) (fun b2 => k (b1, b2)) (fun b => pInt (j b1 b)) (Δ2 b1))) :
    PT X (.Compare a [.Eq] [b] pos) (tTs W F Γ Δ T k (fun b => decide (i b.1 = j b.1 b.2)) fun b => Δ2 b.1 b.2) :=
  t2t (bt_cmp op_eq (nomark _)) ha hb fun b1 b2 _ v w H Q _ hv hw q => by
    cases hv; cases hw
    refine ⟨rfl, q _ ?_⟩
    show V.bl _ = V.bl _
    congr 1
    by_cases z : i b1 = j b1 b2
    · rw [z]; simp
    · rw [decide_eq_false z, decide_eq_false fun y => z (V.int.inj y)]
theorem t_neI (ha : PE X a (tE W F Γ Δ T k1 (fun b => pInt (i b)) Δ1)) (hb : ∀ b1, PE X b (tE W F Γ (Δ1 b1) (k1 b1) (fun b2 => k (b1, b2)) (fun b => pInt (j b1 b)) (Δ2 b1))) :
    PT X (.Compare a [.NotEq] [b] pos) (tTs W F Γ Δ T k (fun b => !decide (i b.1 = j b.1 b.2)) fun b => Δ2 b.1 b.2) :=
  t2t (bt_cmp op_ne (nomark _)) ha hb fun b1 b2 _ v w H Q _ hv hw q => by
    cases hv; cases hw
    refine ⟨rfl, q _ ?_⟩
    show V.bl _ = V.bl _
    congr 1
    by_cases z : i b1 = j b1 b2
    · rw [z]; simp
    · rw [decide_eq_false z, decide_eq_false fun y => z (V.int.inj y)]
end
end
end L3
end
section
set_option Elab.async false
set_option linter.all false
set_option maxRecDepth 100000
set_option maxHeartbeats 4000000
namespace L3
open PySem PySem.Spec PyProof.Rows L2

/-! ### cells -/
theorem flat_sub : ∀ {Δ' Δ : List Cel}, Δ'.Sublist Δ → (cellsOf Δ').Sublist (cellsOf Δ)
  | _, _, .slnil => List.Sublist.refl _
  | _, _, .cons a s => by
    rw [cellsOf_cons]
    exact (flat_sub s).trans (List.sublist_append_right _ _)
  | _, _, .cons₂ a s => by
    rw [cellsOf_cons, cellsOf_cons]
    exact (List.Sublist.refl _).append (flat_sub s)
theorem flat_perm {Δ Δ' : List Cel} (p : Δ.Perm Δ') : (cellsOf Δ).Perm (cellsOf Δ') := by
  unfold cellsOf
  exact p.flatMap_right _
theorem HkO.perm {F : Fm} {Δ Δ' : List Cel} {H : Hp} (k : HkO F Δ H) (p : Δ.Perm Δ') : HkO F Δ' H :=
  ⟨k.base, fun c hc => k.del c (p.mem_iff.mpr hc), (flat_perm p).nodup_iff.mp k.nod, fun c hc => k.own c (p.mem_iff.mpr hc), k.mem⟩
theorem HkO.less {F : Fm} {Δ Δ' : List Cel} {H : Hp} (k : HkO F Δ H) (h : Δ'.Sublist Δ) : HkO F Δ' H :=
  ⟨k.base, fun c hc => k.del c (h.subset hc), k.nod.sublist (flat_sub h), fun c hc => k.own c (h.subset hc), k.mem⟩
theorem HkO.ndup {F : Fm} {c : Cel} {Δ : List Cel} {H : Hp} (k : HkO F (c :: Δ) H) : c.G.Nodup ∧ (cellsOf Δ).Nodup ∧ ∀ a ∈ c.G, a ∉ cellsOf Δ := by
  have h := k.nod
  rw [cellsOf_cons] at h
  obtain ⟨h1, h2, h3⟩ := List.nodup_append.mp h
  exact ⟨h1, h2, fun a ha hb => h3 a ha a hb rfl⟩
/-- the first cell has changed, the others stand -/
theorem HkO.rest {F : Fm} {c : Cel} {R : List Cel} {H H' : Hp} (k : HkO F (c :: R) H) (kp : ∀ a o, a ∉ c.G → H a = some o → H' a = some o) (dm : ∀ a ∈ c.G, ∃ o, H' a = some o) : HkO F R H' ∧ Fzs H H' ∧ ∀ a o, H a = some o → ∃ u, H' a = some u := by
  have fz : Fzs H H' := fun a o p e => kp a o (fun ha => by
    obtain ⟨u, eu, nu⟩ := c.d.cellsN (k.del c List.mem_cons_self) a ha
    rw [e] at eu
    cases eu
    exact nu p) e
  have dom : ∀ a o, H a = some o → ∃ u, H' a = some u := fun a o e => by
    by_cases ha : a ∈ c.G
    · exact dm a ha
    · exact ⟨o, kp a o ha e⟩
  refine ⟨⟨fun a o e m => ?_, fun x hx => ?_, k.ndup.2.1, fun x hx => k.own x (List.mem_cons_of_mem _ hx), fun m hm a ha => ?_⟩, fz, dom⟩
  · refine kp a o (fun ha => ?_) (k.base a o e m)
    rcases k.own c List.mem_cons_self a ha with z | ⟨i, w, _, hw, z⟩
    · rw [e] at z; cases z
    · exact m w (List.mem_of_getElem? hw) z
  · exact x.d.frame (k.del x (List.mem_cons_of_mem _ hx)) (fun a ha o q => kp a o (fun hc => k.ndup.2.2 a hc (mem_cellsOf hx ha)) q) fz
  · obtain ⟨o, e⟩ := k.mem m hm a ha
    exact dom a o e
/-- .. and is of another kind now -/
theorem HkO.turn {F : Fm} {c : Cel} {R : List Cel} {H H' : Hp} {G' : List Addr} {d' : Od} (k : HkO F (c :: R) H) (kp : ∀ a o, a ∉ c.G → H a = some o → H' a = some o) (dm : ∀ a ∈ c.G, ∃ o, H' a = some o) (nd : G'.Nodup) (sb : ∀ a ∈ G', a ∈ c.G ∨ H a = none) (new : d'.pr G' H' c.v) :
    HkO F (⟨G', c.v, d', c.prm⟩ :: R) H' ∧ Fzs H H' ∧ ∀ a o, H a = some o → ∃ u, H' a = some u := by
  obtain ⟨r, fz, dom⟩ := k.rest kp dm
  refine ⟨r.cons (c := ⟨G', c.v, d', c.prm⟩) nd (fun a ha hb => ?_) new (fun a ha => ?_), fz, dom⟩
  · rcases sb a ha with h | h
    · exact k.ndup.2.2 a h hb
    · obtain ⟨o, e, _⟩ := k.isC (a := a) (by rw [cellsOf_cons]; exact List.mem_append_right _ hb)
      rw [h] at e; cases e
  · rcases sb a ha with h | h
    · exact k.own c List.mem_cons_self a h
    · exact .inl (k.fresh0 h)
theorem map_at {Δ0 : List Cel} {j : Nat} {c : Cell} (h : (Δ0.map Cel.fg)[j]? = some c) : ∃ A x B, Δ0 = A ++ x :: B ∧ A.length = j ∧ x.fg = c := by
  rw [List.getElem?_map] at h
  cases e : Δ0[j]? with
  | none => rw [e] at h; cases h
  | some x =>
    rw [e] at h
    have hl : j < Δ0.length := by
      by_cases hl : j < Δ0.length
      · exact hl
      · rw [List.getElem?_eq_none (by omega)] at e; cases e
    refine ⟨Δ0.take j, x, Δ0.drop (j + 1), ?_, by rw [List.length_take]; omega, by simpa using h⟩
    rw [List.getElem?_eq_getElem hl] at e
    cases e
    rw [← List.drop_eq_getElem_cons hl, List.take_append_drop]
theorem mid_perm {A B : List Cel} {x : Cel} : (A ++ x :: B).Perm (x :: (A ++ B)) := List.perm_middle
theorem map_set {A B : List Cel} {x y : Cel} : (A ++ y :: B).map Cel.fg = ((A ++ x :: B).map Cel.fg).set A.length y.fg := by
  simp
theorem map_erase {A B : List Cel} {x : Cel} : (A ++ B).map Cel.fg = ((A ++ x :: B).map Cel.fg).eraseIdx A.length := by
  rw [List.map_append, List.map_append, List.map_cons, List.eraseIdx_append_of_length_le (by rw [List.length_map]; exact Nat.le_refl _), List.length_map, Nat.sub_self]
  rfl
section
variable {F : Fm} {Γ : Gm} {Δ : Δs} {σ : SS} {H : Hp} {j : Nat} {c : Cell}
/-- a cell: what it is, and how it may change (its places, too) -/
theorem Ok.cellG (k : Ok F Γ Δ σ H) (hj : Δ[j]? = some c) : ∃ G, c.d.pr G H c.v ∧ G.Nodup ∧ ∀ H' d' G', (∀ a o, a ∉ G → H a = some o → H' a = some o) → (∀ a ∈ G, ∃ o, H' a = some o) → G'.Nodup → (∀ a ∈ G', a ∈ G ∨ H a = none) → d'.pr G' H' c.v →
    Ok F Γ (Δ.set j { c with d := d' }) σ H' ∧ St true H H' := by
  obtain ⟨⟨Δ0, e, k⟩, n⟩ := k
  subst e
  obtain ⟨A, x, B, e0, el, ex⟩ := map_at hj
  subst e0
  subst ex
  have k1 := k.perm mid_perm
  refine ⟨x.G, k1.del x List.mem_cons_self, k1.ndup.1, fun H' d' G' kp dm nd sb new => ?_⟩
  obtain ⟨k2, fz, dom⟩ := k1.turn kp dm nd sb new
  refine ⟨⟨⟨A ++ ⟨G', x.v, d', x.prm⟩ :: B, ?_, k2.perm mid_perm.symm⟩, n.mono fz⟩, fz, (fun h => nomatch h), dom⟩
  rw [← el]
  exact map_set
theorem Ok.cell (k : Ok F Γ Δ σ H) (hj : Δ[j]? = some c) : ∃ G, c.d.pr G H c.v ∧ G.Nodup ∧ ∀ H' d', (∀ a o, a ∉ G → H a = some o → H' a = some o) → d'.pr G H' c.v → Ok F Γ (Δ.set j { c with d := d' }) σ H' ∧ St true H H' := by
  obtain ⟨G, p, nd, t⟩ := k.cellG hj
  exact ⟨G, p, nd, fun H' d' kp new => t H' d' G kp (fun a ha => by
    obtain ⟨o, e, _⟩ := d'.cellsN new a ha
    exact ⟨o, e⟩) nd (fun a ha => .inl ha) new⟩
theorem Ok.at (k : Ok F Γ Δ σ H) (hj : Δ[j]? = some c) : ∃ G, c.d.pr G H c.v := by
  obtain ⟨G, p, _⟩ := k.cell hj
  exact ⟨G, p⟩
theorem Hk.at (k : Hk F Δ H) (hj : Δ[j]? = some c) : ∃ G, c.d.pr G H c.v := by
  obtain ⟨Δ0, e, k⟩ := k
  subst e
  obtain ⟨A, x, B, e0, el, ex⟩ := map_at hj
  subst e0
  subst ex
  exact ⟨x.G, k.del x (by simp)⟩
/-- a new thing is put into a cell -/
theorem OkN.absorb {W : Bool} {H0 : Hp} {v : V} {d : Od} (k : OkN W F Γ H0 v d Δ σ H) (hj : Δ[j]? = some c) : ∃ G Gn, c.d.pr G H c.v ∧ d.pr Gn H v ∧ (G ++ Gn).Nodup ∧ ∀ H' d' G', (∀ a o, a ∉ G → a ∉ Gn → H a = some o → H' a = some o) → (∀ a, a ∈ G ∨ a ∈ Gn → ∃ o, H' a = some o) → G'.Nodup → (∀ a ∈ G', (a ∈ G ∨ a ∈ Gn) ∨ H a = none) → d'.pr G' H' c.v →
    Ok F Γ (Δ.set j { c with d := d' }) σ H' ∧ Fzs H H' ∧ ∀ a o, H a = some o → ∃ u, H' a = some u := by
  obtain ⟨Δ0, Gn, e, k, nw, n⟩ := k
  subst e
  obtain ⟨A, x, B, e0, el, ex⟩ := map_at hj
  subst e0
  subst ex
  have k1 : HkO F (x :: ⟨Gn, v, d, none⟩ :: (A ++ B)) H := k.perm ((mid_perm (x := x)).cons _ |>.trans (.swap _ _ _))
  have nd1 := k1.ndup
  have nd2 := (k1.less (.cons _ (List.Sublist.refl _))).ndup
  have nod : (x.G ++ Gn).Nodup := List.nodup_append.mpr ⟨nd1.1, nd2.1, fun a ha b hb e => by
    subst e
    exact nd1.2.2 a ha (by rw [cellsOf_cons]; exact List.mem_append_left _ hb)⟩
  refine ⟨x.G, Gn, k1.del x List.mem_cons_self, k1.del ⟨Gn, v, d, none⟩ (List.mem_cons_of_mem _ List.mem_cons_self), nod, fun H' d' G' kp dm nd sb new => ?_⟩
  have fz : Fzs H H' := fun a o p e => by
    have hn : ∀ y ∈ (x :: ⟨Gn, v, d, none⟩ :: (A ++ B)), a ∉ y.G := fun y hy ha => by
      obtain ⟨u, eu, nu⟩ := y.d.cellsN (k1.del y hy) a ha
      rw [e] at eu
      cases eu
      exact nu p
    exact kp a o (hn x List.mem_cons_self) (hn ⟨Gn, v, d, none⟩ (List.mem_cons_of_mem _ List.mem_cons_self)) e
  have dom : ∀ a o, H a = some o → ∃ u, H' a = some u := fun a o e => by
    by_cases h1 : a ∈ x.G
    · exact dm a (.inl h1)
    · by_cases h2 : a ∈ Gn
      · exact dm a (.inr h2)
      · exact ⟨o, kp a o h1 h2 e⟩
  have r : HkO F (A ++ B) H' := by
    refine ⟨fun a o e m => ?_, fun y hy => ?_, nd2.2.1, fun y hy => k1.own y (List.mem_cons_of_mem _ (List.mem_cons_of_mem _ hy)), fun m hm a ha => ?_⟩
    · have hno : ∀ y ∈ (x :: ⟨Gn, v, d, none⟩ :: (A ++ B)), a ∉ y.G := fun y hy ha => by
        rcases k1.own y hy a ha with z | ⟨i, w, _, hw, z⟩
        · rw [e] at z; cases z
        · exact m w (List.mem_of_getElem? hw) z
      exact kp a o (hno x List.mem_cons_self) (hno ⟨Gn, v, d, none⟩ (List.mem_cons_of_mem _ List.mem_cons_self)) (k1.base a o e m)
    · refine y.d.frame (k1.del y (List.mem_cons_of_mem _ (List.mem_cons_of_mem _ hy))) (fun a ha o q => kp a o (fun hc => ?_) (fun hc => ?_) q) fz
      · exact nd1.2.2 a hc (by rw [cellsOf_cons]; exact List.mem_append_right _ (mem_cellsOf hy ha))
      · exact nd2.2.2 a hc (mem_cellsOf hy ha)
    · obtain ⟨o, e⟩ := k1.mem m hm a ha
      exact dom a o e
  have fin : HkO F (⟨G', x.v, d', x.prm⟩ :: (A ++ B)) H' := r.cons (c := ⟨G', x.v, d', x.prm⟩) nd (fun a ha hb => by
      rcases sb a ha with (h | h) | h
      · exact nd1.2.2 a h (by rw [cellsOf_cons]; exact List.mem_append_right _ hb)
      · exact nd2.2.2 a h hb
      · obtain ⟨o, e, _⟩ := k1.isC (a := a) (by rw [cellsOf_cons, cellsOf_cons]; exact List.mem_append_right _ (List.mem_append_right _ hb))
        rw [h] at e; cases e) new fun a ha => by
      rcases sb a ha with (h | h) | h
      · exact k1.own x List.mem_cons_self a h
      · rcases k1.own ⟨Gn, v, d, none⟩ (List.mem_cons_of_mem _ List.mem_cons_self) a h with z | ⟨i, m, z, _⟩
        · exact .inl z
        · cases z
      · exact .inl (k1.fresh0 h)
  refine ⟨⟨⟨A ++ ⟨G', x.v, d', x.prm⟩ :: B, ?_, fin.perm mid_perm.symm⟩, n.mono fz⟩, fz, dom⟩
  rw [← el]
  exact map_set
end
/-! ### locks -/
def tLkX (Φ : Hp → Prop) (H : Hp) : Prop := ∃ G, tLk G Φ H
theorem inv_lkX {X : Cx} {pins : List (Addr × Obj)} {σ : SS} {s : Shared} {Φ : Hp → Prop} {H : Hp} (I : Inv X pins σ H s) (h : tLkX Φ H) : ∃ H', Inv X pins σ H' s ∧ Φ H' := by
  obtain ⟨G, h⟩ := h
  exact inv_lk I h
/-- the first cell is locked for good -/
theorem HkO.frz {F : Fm} {c : Cel} {R : List Cel} {H : Hp} (k : HkO F (c :: R) H) {Φ : Hp → Prop} (q : ∀ H', Fzs H H' → (∀ a, a ∉ c.G → H' a = H a) → (∀ a o, H a = some o → ∃ u, H' a = some u) → HkO F R H' → c.d.pd.pr H' c.v → Φ H') : tLk c.G Φ H := by
  refine c.d.lock (k.del c List.mem_cons_self) k.ndup.1 fun H' kp dom p => ?_
  obtain ⟨r, fz, _⟩ := k.rest (H' := H') (fun a o na e => by rw [kp a na]; exact e) (fun a ha => by
    obtain ⟨o, e, _⟩ := c.d.cellsN (k.del c List.mem_cons_self) a ha
    exact dom a o e)
  exact q H' fz kp dom r p
theorem Ok.frz {F : Fm} {Γ : Gm} {Δ : Δs} {σ : SS} {H : Hp} {j : Nat} {c : Cell} (k : Ok F Γ Δ σ H) (hj : Δ[j]? = some c) {Φ : Hp → Prop} (q : ∀ H', St true H H' → Ok F Γ (Δ.eraseIdx j) σ H' → c.d.pd.pr H' c.v → Φ H') : tLkX Φ H := by
  obtain ⟨⟨Δ0, e, k⟩, n⟩ := k
  subst e
  obtain ⟨A, x, B, e0, el, ex⟩ := map_at hj
  subst e0
  subst ex
  refine ⟨x.G, (k.perm mid_perm).frz fun H' f kp dom h p => q H' ⟨f, (fun h => nomatch h), dom⟩ ⟨⟨A ++ B, ?_, h⟩, n.mono f⟩ p⟩
  rw [← el]
  exact map_erase
/-- a new thing is locked for good: all else stands -/
theorem OkN.frz {F : Fm} {Γ : Gm} {Δ : Δs} {σ : SS} {H0 H : Hp} {v : V} {d : Od} {W : Bool} (k : OkN W F Γ H0 v d Δ σ H) (s0 : St W H0 H) {Φ : Hp → Prop} (q : ∀ H', St W H0 H' → Ok F Γ Δ σ H' → d.pd.pr H' v → Φ H') : tLkX Φ H := by
  obtain ⟨Δ0, G, e, k, nw, n⟩ := k
  refine ⟨G, k.frz fun H' f kp dom h p => q H' ⟨s0.fz.trans f, fun hW a o ea => ?_, fun a o ea => ?_⟩ ⟨⟨Δ0, e, h⟩, n.mono f⟩ p⟩
  · rw [kp a fun ha => ?_]
    · exact s0.kp hW a o ea
    · rw [nw hW a ha] at ea; cases ea
  · obtain ⟨u, eu⟩ := s0.dom a o ea
    exact dom a u eu
theorem map_sub : ∀ {Δ0 : List Cel} {Δ' : Δs}, Δ'.Sublist (Δ0.map Cel.fg) → ∃ Δ1 : List Cel, Δ1.Sublist Δ0 ∧ Δ1.map Cel.fg = Δ'
  | [], _, h => ⟨[], .slnil, by
    have := List.sublist_nil.mp h
    rw [this]; rfl⟩
  | x :: Δ0, Δ', h => by
    rw [List.map_cons] at h
    cases h with
    | cons _ h =>
      obtain ⟨Δ1, s, e⟩ := map_sub h
      exact ⟨Δ1, .cons _ s, e⟩
    | cons_cons _ h =>
      obtain ⟨Δ1, s, e⟩ := map_sub h
      exact ⟨x :: Δ1, .cons₂ _ s, by rw [List.map_cons, e]⟩
theorem Hk.less {F : Fm} {Δ Δ' : Δs} {H : Hp} (k : Hk F Δ H) (h : Δ'.Sublist Δ) : Hk F Δ' H := by
  obtain ⟨Δ0, e, k⟩ := k
  subst e
  obtain ⟨Δ1, s, e⟩ := map_sub h
  exact ⟨Δ1, e, k.less s⟩
theorem Ok.less {F : Fm} {Γ : Gm} {Δ Δ' : Δs} {σ : SS} {H : Hp} (k : Ok F Γ Δ σ H) (h : Δ'.Sublist Δ) : Ok F Γ Δ' σ H := ⟨k.hk.less h, k.nm⟩
theorem OkN.less {W : Bool} {F : Fm} {Γ : Gm} {Δ Δ' : Δs} {σ : SS} {H0 H : Hp} {v : V} {d : Od} (k : OkN W F Γ H0 v d Δ σ H) (h : Δ'.Sublist Δ) : OkN W F Γ H0 v d Δ' σ H := by
  obtain ⟨Δ0, G, e, k, nw, n⟩ := k
  subst e
  obtain ⟨Δ1, s, e⟩ := map_sub h
  exact ⟨Δ1, G, e, k.less (s.cons₂ _), nw, n⟩
theorem Ok.set {F : Fm} {Γ : Gm} {Δ : Δs} {σ : SS} {H : Hp} {i : Nat} {p : Pd} {v : V} (k : Ok F Γ Δ σ H) (hp : p.pr H v) : Ok F (Γ.set i (some p)) Δ (σ.set i (some v)) H :=
  ⟨k.hk, by rw [List.length_set, List.length_set]; exact k.len, fun j q e => by
    by_cases h : j = i
    · subst h
      by_cases hl : j < Γ.length
      · rw [List.getElem?_set_self hl] at e
        cases e
        exact ⟨v, List.getElem?_set_self (by rw [k.len]; exact hl), hp⟩
      · rw [List.getElem?_eq_none (by rw [List.length_set]; omega)] at e
        cases e
    · rw [List.getElem?_set_ne (fun z => h z.symm)] at e
      obtain ⟨w, hs, hq⟩ := k.gam j q e
      exact ⟨w, by rw [List.getElem?_set_ne (fun z => h z.symm)]; exact hs, hq⟩⟩
/-- fewer names -/
def SubG : Gm → Gm → Prop
  | [], [] => True
  | none :: g', _ :: g => SubG g' g
  | some p :: g', some q :: g => p = q ∧ SubG g' g
  | _, _ => False
theorem SubG.len : ∀ {g' g : Gm}, SubG g' g → g'.length = g.length
  | [], [], _ => rfl
  | none :: g', _ :: g, h => congrArg (· + 1) (SubG.len (g' := g') (g := g) h)
  | some p :: g', some q :: g, h => congrArg (· + 1) (SubG.len (g' := g') (g := g) h.2)
  | [], _ :: _, h => h.elim
  | some _ :: _, [], h => h.elim
  | none :: _, [], h => h.elim
  | some _ :: _, none :: _, h => h.elim
theorem SubG.get : ∀ {g' g : Gm} {i : Nat} {p : Pd}, SubG g' g → g'[i]? = some (some p) → g[i]? = some (some p)
  | [], [], _, _, _, e => by simp at e
  | none :: g', _ :: g, 0, p, h, e => by simp at e
  | none :: g', _ :: g, i + 1, p, h, e => SubG.get (g' := g') (g := g) (i := i) h (by simpa using e)
  | some a :: g', some b :: g, 0, p, h, e => by
    have q : a = p := by simpa using e
    rw [← q, h.1]
    rfl
  | some a :: g', some b :: g, i + 1, p, h, e => SubG.get (g' := g') (g := g) (i := i) h.2 (by simpa using e)
  | [], _ :: _, _, _, h, _ => h.elim
  | some _ :: _, [], _, _, h, _ => h.elim
  | none :: _, [], _, _, h, _ => h.elim
  | some _ :: _, none :: _, _, _, h, _ => h.elim
theorem Ok.wk {F : Fm} {Γ Γ' : Gm} {Δ Δ' : Δs} {σ : SS} {H : Hp} (k : Ok F Γ Δ σ H) (g : SubG Γ' Γ) (h : Δ'.Sublist Δ) : Ok F Γ' Δ' σ H :=
  ⟨k.hk.less h, ⟨k.len.trans g.len.symm, fun i p e => k.gam i p (g.get e)⟩⟩
end L3
end
section
set_option Elab.async false
set_option linter.all false
set_option maxRecDepth 100000
set_option maxHeartbeats 4000000
namespace L3
open PySem PySem.Spec PyProof.Rows L2
section
variable {X : Cx} {W : Bool} {F : Fm} {Γ : Gm} {Δ : Δs} {γ : Type}

/-! ### what is new is locked -/
theorem x_frz {β : Type} {e : Expr} {T : Option γ} {k : β → Option γ} {D : β → Od} {Δ' : β → Δs} (he : PE X e (tO W F Γ Δ T k D Δ')) : PE X e (tE W F Γ Δ T k (fun b => (D b).pd) Δ') :=
  ⟨fun pins s σ H Q I ⟨ok, g, e, q⟩ => thn (he.run pins s σ H (fun v H' => ∃ b, k b = some g ∧ St W H H' ∧ OkN W F Γ H v (D b) (Δ' b) σ H') I ⟨ok, g, e, fun b v H' kb f ok' => ⟨b, kb, f, ok'⟩⟩) fun u s1 ⟨v, H1, I1, r1, b, kb, f, ok1⟩ => by
    obtain ⟨H2, I2, f2, ok2, p2⟩ := inv_lkX (Φ := fun H2 => St W H H2 ∧ Ok F Γ (Δ' b) σ H2 ∧ (D b).pd.pr H2 v) I1 (ok1.frz f fun H' f h p => ⟨f, h, p⟩)
    exact ⟨v, H2, I2, r1, q b v H2 kb f2 ok2 p2⟩⟩

/-! ### one operand -/
def Un1 (X : Cx) (e a : Expr) (r : V → Hp → VK → Prop) : Prop := ∀ ta, PE X a ta → PE X e (tUn r ta)
theorem u_un {op : UnaryOp} {r : V → Hp → VK → Prop} {a : Expr} {pos : Pos} (ho : UnR X (unaryOp op) r) : Un1 X (.UnaryOp op a pos) a r := fun _ ha => pe_un ho ha
theorem u_callB {id : String} {r : List V → Hp → VK → Prop} {x : Str} {a : Expr} {p pos : Pos} (hc : CallR X (.builtin id) r) (hg : Gl X x) (hm : X.mg x = none) (hv : bootBuiltins x = some (.builtin id)) (hn : x ≠ "__name__" := by decide) (hdb : (x == ("__debug__" : Str)) = false := by decide)
    (hs : starEach [a] X.env = (false, eval a X.env) :: starEach [] X.env := by rfl) : Un1 X (.Call (.Name x p) [a] [] pos) a (fun v => r [v]) := fun ta ha => (pe_callB hc hg hm hv (pa_cons ha pa_nil hs) hn hdb hs).wk fun σ H Q h => h
theorem u_callTy {id : String} {r : List V → Hp → VK → Prop} {x : Str} {a : Expr} {p pos : Pos} (hc : CallR X (.type id) r) (hg : Gl X x) (hm : X.mg x = none) (hv : bootBuiltins x = some (.type id)) (hn : x ≠ "__name__" := by decide) (hdb : (x == ("__debug__" : Str)) = false := by decide)
    (hs : starEach [a] X.env = (false, eval a X.env) :: starEach [] X.env := by rfl) : Un1 X (.Call (.Name x p) [a] [] pos) a (fun v => r [v]) := fun ta ha => (pe_callTy hc hg hm hv (pa_cons ha pa_nil hs) hn hdb hs).wk fun σ H Q h => h
theorem b_callB {id : String} {r : List V → Hp → VK → Prop} {x : Str} {a b : Expr} {p pos : Pos} (hc : CallR X (.builtin id) r) (hg : Gl X x) (hm : X.mg x = none) (hv : bootBuiltins x = some (.builtin id)) (hn : x ≠ "__name__" := by decide) (hdb : (x == ("__debug__" : Str)) = false := by decide)
    (hs : starEach [a, b] X.env = (false, eval a X.env) :: starEach [b] X.env := by rfl) (hs2 : starEach [b] X.env = (false, eval b X.env) :: starEach [] X.env := by rfl) (hpl : (backTo pos (starEach [b] X.env)).any (·.1) = false := by rfl) : Bin2 X (.Call (.Name x p) [a, b] [] pos) a b (fun v w => r [v, w]) := fun ta tb ha hb => (pe_callB hc hg hm hv (pa_cons ha (pa_cons hb pa_nil hs2) hs) hn hdb hs hpl).wk fun σ H Q h => h
section
variable {e a : Expr} {r : V → Hp → VK → Prop} {β : Type} {T : Option γ} {E1 : β → Pd} {Δ1 : β → Δs}
theorem x1t {k : β → Option γ} {E : β → Pd} (h1 : Un1 X e a r) (ha : PE X a (tE W F Γ Δ T k E1 Δ1)) (hv : ∀ b σ v H Q, Ok F Γ (Δ1 b) σ H → (E1 b).pr H v → (∀ u, (E b).pr H u → Q u H) → r v H Q) : PE X e (tE W F Γ Δ T k E Δ1) :=
  (h1 _ ha).wk fun σ H Q ⟨ok, g, e, q⟩ => ⟨ok, g, e, fun b v H' kb f ok' hp => hv b σ v H' Q ok' hp fun u hu => q b u H' kb f ok' hu⟩
theorem x1g {k : β → Option γ} {E : β → Pd} {c : β → Prop} [∀ b, Decidable (c b)] (h1 : Un1 X e a r) (ha : PE X a (tE W F Γ Δ T (fun b => grd (c b) (k b)) E1 Δ1)) (hv : ∀ b σ v H Q, Ok F Γ (Δ1 b) σ H → c b → (E1 b).pr H v → (∀ u, (E b).pr H u → Q u H) → r v H Q) : PE X e (tE W F Γ Δ T k E Δ1) :=
  (h1 _ ha).wk fun σ H Q ⟨ok, g, e, q⟩ => ⟨ok, g, e, fun b v H' kb f ok' hp => hv b σ v H' Q ok' (grd_some kb).1 hp fun u hu => q b u H' (grd_some kb).2 f ok' hu⟩
theorem x1p {β2 : Type} {k : β × β2 → Option γ} {E : β × β2 → Pd} {m : β → Option β2} (h1 : Un1 X e a r) (ha : PE X a (tE W F Γ Δ T (fun b => (m b).bind fun c => k (b, c)) E1 Δ1))
    (hv : ∀ b c σ v H Q, Ok F Γ (Δ1 b) σ H → m b = some c → (E1 b).pr H v → (∀ u, (E (b, c)).pr H u → Q u H) → r v H Q) : PE X e (tE W F Γ Δ T k E fun b => Δ1 b.1) :=
  (h1 _ ha).wk fun σ H Q ⟨ok, g, e, q⟩ => ⟨ok, g, e, fun b v H' kb f ok' hp => by
    obtain ⟨c, ec, kc⟩ := bind_some kb
    exact hv b c σ v H' Q ok' ec hp fun u hu => q (b, c) u H' kc f ok' hu⟩
/-- a new list -/
theorem Ok.newL {σ : SS} {H : Hp} {p : Addr} {α : Type} {E : α → Pd} {xs : List α} {vs : List V} (ok : Ok F Γ Δ σ H) (hp : H p = none) (z : xs.length ≤ sizeLine) (q : Paired (fun x u => (E x).pr H u) xs vs) : OkN W F Γ H (.ref p) (oL E xs) Δ σ (upd H p (.lst vs)) ∧ Gr H (upd H p (.lst vs)) := by
  have g : Gr H (upd H p (.lst vs)) := Gr.new hp
  exact ⟨ok.add g (List.nodup_cons.mpr ⟨List.not_mem_nil, List.nodup_nil⟩) (fun a ha => by rw [List.mem_singleton.mp ha]; exact hp) ⟨p, vs, rfl, rfl, upd_same, z, paired_mono (fun x _ => (E x).mono g.fzs) q⟩, g⟩
theorem Ok.newD {σ : SS} {H : Hp} {p : Addr} {α : Type} {E : α → Pd} {xs : List (Str × α)} {kvs : List (Key × V)} (ok : Ok F Γ Δ σ H) (hp : H p = none) (z : xs.length ≤ sizeLine) (q : Paired (fun (x : Str × α) (u : Key × V) => u.1 = .inr x.1 ∧ (E x.2).pr H u.2) xs kvs) : OkN W F Γ H (.ref p) (oD E xs) Δ σ (upd H p (.dK kvs)) ∧ Gr H (upd H p (.dK kvs)) := by
  have g : Gr H (upd H p (.dK kvs)) := Gr.new hp
  exact ⟨ok.add g (List.nodup_cons.mpr ⟨List.not_mem_nil, List.nodup_nil⟩) (fun a ha => by rw [List.mem_singleton.mp ha]; exact hp) ⟨p, kvs, rfl, rfl, upd_same, z, paired_mono (fun x _ w => ⟨w.1, (E x.2).mono g.fzs w.2⟩) q⟩, g⟩
theorem x1n {k : β → Option γ} {α : Type} {Ee : α → Pd} {ys : β → List α} (h1 : Un1 X e a r) (ha : PE X a (tE W F Γ Δ T k E1 Δ1))
    (hv : ∀ b σ v H Q, Ok F Γ (Δ1 b) σ H → (E1 b).pr H v → (∀ p vs, H p = none → (ys b).length ≤ sizeLine → Paired (fun x u => (Ee x).pr H u) (ys b) vs → Q (.ref p) (upd H p (.lst vs))) → r v H Q) : PE X e (tO W F Γ Δ T k (fun b => oL Ee (ys b)) Δ1) :=
  (h1 _ ha).wk fun σ H Q ⟨ok, g, e, q⟩ => ⟨ok, g, e, fun b v H' kb f ok' hp => hv b σ v H' Q ok' hp fun p vs np z pr => by
    obtain ⟨o2, f2⟩ := ok'.newL np z pr
    exact q b _ _ kb (f.trans f2.st) (o2.since f)⟩
end
/-! ### argument lists -/
theorem a_nil {k : Unit → Option γ} : PA X [] (tAr W F Γ Δ (k ()) k (fun _ => []) fun _ => Δ) := pa_nil.wk fun σ H Q ⟨ok, g, e, q⟩ => q () [] H e (St.refl H) ok .nil
theorem a_cons {a : Expr} {es : List Expr} {β1 β2 : Type} {T : Option γ} {k1 : β1 → Option γ} {k : β1 × β2 → Option γ} {E1 : β1 → Pd} {Es : β1 → β2 → List Pd} {Δ1 : β1 → Δs} {Δ2 : β1 → β2 → Δs}
    (ha : PE X a (tE W F Γ Δ T k1 E1 Δ1)) (hr : ∀ b1, PA X es (tAr W F Γ (Δ1 b1) (k1 b1) (fun b2 => k (b1, b2)) (Es b1) (Δ2 b1))) (hs : starEach (a :: es) X.env = (false, eval a X.env) :: starEach es X.env := by rfl) :
    PA X (a :: es) (tAr W F Γ Δ T k (fun b => E1 b.1 :: Es b.1 b.2) fun b => Δ2 b.1 b.2) :=
  (pa_cons ha (pa_ex hr) hs).wk fun σ H Q ⟨ok, g, e, q⟩ => ⟨ok, g, e, fun b1 v H1 kb f1 ok1 hv => ⟨b1, ok1, g, kb, fun b2 vs H2 kb2 f2 ok2 hvs => q (b1, b2) (v :: vs) H2 kb2 (f1.trans f2) ok2 (.cons ((E1 b1).mono f2.fz hv) hvs)⟩⟩
theorem paired_len {α β : Type} {P : α → β → Prop} {l₁ : List α} {l₂ : List β} (h : Paired P l₁ l₂) : l₁.length = l₂.length := Paired.length h
/-- [a, b, ..] of one kind -/
theorem paired_map {α : Type} {E : α → Pd} {H : Hp} : ∀ {xs : List α} {vs : List V}, Paired (fun p v => Pd.pr p H v) (xs.map E) vs → Paired (fun x v => (E x).pr H v) xs vs
  | [], _, h => by cases h; exact .nil
  | x :: xs, _, h => by
    cases h with
    | cons r t => exact .cons r (paired_map t)
theorem x_disp {es : List Expr} {pos : Pos} {β α : Type} {T : Option γ} {k : β → Option γ} {Es : β → List Pd} {Δ1 : β → Δs} (Ee : α → Pd) (xs : β → List α) (ha : PA X es (tAr W F Γ Δ T k Es Δ1)) (he : ∀ b, Es b = (xs b).map Ee) (hz : ∀ b, (xs b).length ≤ 1000) :
    PE X (.List es pos) (tO W F Γ Δ T k (fun b => oL Ee (xs b)) Δ1) :=
  (pe_lst ha).wk fun σ H Q ⟨ok, g, e, q⟩ => ⟨ok, g, e, fun b vs H' kb f ok' hp => by
    rw [he b] at hp
    have hp2 := paired_map hp
    have z : (xs b).length ≤ sizeLine := Nat.le_trans (hz b) (by decide)
    refine ⟨by rw [← paired_len hp2]; exact z, fun p np => ?_⟩
    obtain ⟨o2, f2⟩ := ok'.newL np z hp2
    exact q b _ _ kb (f.trans f2.st) (o2.since f)⟩
theorem x_nil {pos : Pos} {α : Type} {k : Unit → Option γ} (Ee : α → Pd) : PE X (.List [] pos) (tO W F Γ Δ (k ()) k (fun _ => oL Ee []) fun _ => Δ) := x_disp Ee (fun _ => []) a_nil (fun _ => rfl) fun _ => Nat.zero_le _
theorem paired2 {α β : Type} {P : α → β → Prop} {p q : α} {vs : List β} (h : Paired P [p, q] vs) : ∃ u w, vs = [u, w] ∧ P p u ∧ P q w := by
  cases h with
  | cons r1 t => cases t with
    | cons r2 t => cases t with
      | nil => exact ⟨_, _, rfl, r1, r2⟩
theorem paired3 {α β : Type} {P : α → β → Prop} {p q r : α} {vs : List β} (h : Paired P [p, q, r] vs) : ∃ u w z, vs = [u, w, z] ∧ P p u ∧ P q w ∧ P r z := by
  cases h with
  | cons r1 t =>
    obtain ⟨u, w, e, h1, h2⟩ := paired2 t
    subst e
    exact ⟨_, _, _, rfl, r1, h1, h2⟩
theorem x_tup2 {a b : Expr} {x1} {pos : Pos} {α1 α2 β : Type} {T : Option γ} {k : β → Option γ} {Δ1 : β → Δs} {p q : β → Pd} (ha : PA X [a, b] (tAr W F Γ Δ T k (fun b => [p b, q b]) Δ1)) (E1 : α1 → Pd) (E2 : α2 → Pd) (x : β → α1) (y : β → α2) (h1 : ∀ b, p b = E1 (x b) := by exact fun _ => rfl) (h2 : ∀ b, q b = E2 (y b) := by exact fun _ => rfl) :
    PE X (.Tuple [a, b] x1 pos) (tE W F Γ Δ T k (fun b => pT2 E1 E2 (x b, y b)) Δ1) :=
  (pe_tup ha).wk fun σ H Q ⟨ok, g, e, w⟩ => ⟨ok, g, e, fun b vs H' kb f ok' hp => by
    have hp : Paired (fun p v => Pd.pr p H' v) [p b, q b] vs := hp
    rw [h1 b, h2 b] at hp
    obtain ⟨u1, u2, e, r1, r2⟩ := paired2 hp
    subst e
    refine ⟨by show 2 ≤ sizeLine; decide, fun t nt => ?_⟩
    have g' : Gr H' (upd H' t (.tup [u1, u2])) := Gr.new nt
    exact w b _ _ kb (f.trans g'.st) (ok'.gr g') ⟨t, _, _, rfl, upd_same, (E1 _).mono g'.fzs r1, (E2 _).mono g'.fzs r2⟩⟩

/-! ### statements -/
variable {γ : Type} {N : Fn γ} {rest : List Stmt}
theorem s_asg {i : Nat} {x : Str} {e : Expr} {pos pos' : Pos} {β : Type} {T : Option γ} {k : β → Option γ} {E : β → Pd} {Δ' : β → Δs} (nd : X.N.Nodup) (he : PE X e (tE true F Γ Δ T k E Δ'))
    (hr : ∀ b, PSs X rest (tS F (Γ.set i (some (E b))) (Δ' b) N (k b))) (hi : X.N[i]? = some x := by rfl) (hx : Loc X.env.scope x := by first | exact .inl rfl | exact .inr rfl)
    (hs : swapsWith e (some (.Name x pos')) pos.line X.env = pure false := by rfl) (hf : X.fn x = true ∨ X.env.scope.names.lookup x = some .local := by first | exact .inl rfl | exact .inr rfl | assumption) :
    PSs X (.Assign [.Name x pos'] e pos :: rest) (tS F Γ Δ N T) :=
  (pss_cons (ps_set nd hi hx he hs hf) (pss_ex hr)).wk fun D σ H ⟨ok, g, e, f⟩ => ⟨ok, g, e, fun b v H' kb fz ok' hv => ⟨b, ok'.set hv, g, kb, N.mono f fz.fz⟩⟩
/-- .. the value as a letter -/
theorem s_let {i : Nat} {x : Str} {e : Expr} {pos pos' : Pos} {β α : Type} {T : Option γ} {Δ' : β → Δs} {val : β → α} {k2 : β → α → Option γ} (E0 : α → Pd) (nd : X.N.Nodup) (he : PE X e (tE true F Γ Δ T (fun b => (some (val b)).bind (k2 b)) (fun b => E0 (val b)) Δ'))
    (hr : ∀ b a, PSs X rest (tS F (Γ.set i (some (E0 a))) (Δ' b) N (k2 b a))) (hi : X.N[i]? = some x := by rfl) (hx : Loc X.env.scope x := by first | exact .inl rfl | exact .inr rfl)
    (hs : swapsWith e (some (.Name x pos')) pos.line X.env = pure false := by rfl) (hf : X.fn x = true ∨ X.env.scope.names.lookup x = some .local := by first | exact .inl rfl | exact .inr rfl | assumption) :
    PSs X (.Assign [.Name x pos'] e pos :: rest) (tS F Γ Δ N T) :=
  s_asg nd he (fun b => hr b (val b)) hi hx hs hf
theorem s_letO {i : Nat} {x : Str} {e : Expr} {pos pos' : Pos} {β α : Type} {T : Option γ} {Δ' : β → Δs} {val : β → α} {k2 : β → α → Option γ} (D0 : α → Od) (nd : X.N.Nodup) (he : PE X e (tO true F Γ Δ T (fun b => (some (val b)).bind (k2 b)) (fun b => D0 (val b)) Δ'))
    (hr : ∀ b a v, PSs X rest (tS F (Γ.set i (some (pV v))) (⟨v, D0 a, none⟩ :: Δ' b) N (k2 b a))) (hi : X.N[i]? = some x := by rfl) (hx : Loc X.env.scope x := by first | exact .inl rfl | exact .inr rfl)
    (hs : swapsWith e (some (.Name x pos')) pos.line X.env = pure false := by rfl) (hf : X.fn x = true ∨ X.env.scope.names.lookup x = some .local := by first | exact .inl rfl | exact .inr rfl | assumption) :
    PSs X (.Assign [.Name x pos'] e pos :: rest) (tS F Γ Δ N T) :=
  (pss_cons (ps_set nd hi hx he hs hf) (pss_ex fun b => pss_ex fun v => hr b (val b) v)).wk fun D σ H ⟨ok, g, e, f⟩ => ⟨ok, g, e, fun b v H' kb fz ok' => ⟨b, v, ok'.ok.set rfl, g, kb, N.mono f fz.fz⟩⟩
/-- the mirror said otherwise -/
theorem s_is {st : List Stmt} {T T' : Option γ} (hr : PSs X st (tS F Γ Δ N T')) (e : T = T') : PSs X st (tS F Γ Δ N T) := by rw [e]; exact hr
/-- ghost steps -/
theorem s_wk {st : List Stmt} {Γ' : Gm} {Δ' : Δs} {T : Option γ} (g : SubG Γ' Γ) (h : Δ'.Sublist Δ) (hr : PSs X st (tS F Γ' Δ' N T)) : PSs X st (tS F Γ Δ N T) :=
  hr.wk fun D σ H ⟨ok, g', e, f⟩ => ⟨ok.wk g h, g', e, f⟩
theorem Ok.frzS {σ : SS} {H : Hp} {i j : Nat} {c : Cell} (k : Ok F Γ Δ σ H) (hj : Δ[j]? = some c) (hi : Γ[i]? = some (some (pV c.v))) {Φ : Hp → Prop} (q : ∀ H', St true H H' → Ok F (Γ.set i (some c.d.pd)) (Δ.eraseIdx j) σ H' → Φ H') : tLkX Φ H :=
  k.frz hj fun H' f ok' p => q H' f (by
    obtain ⟨v, hs, hv⟩ := k.gam i _ hi
    have hv2 : v = c.v := hv
    subst hv2
    refine ⟨ok'.hk, by rw [List.length_set]; exact ok'.len, fun m p' e => ?_⟩
    by_cases h : m = i
    · subst h
      rw [List.getElem?_set_self (List.getElem?_eq_some_iff.mp hi).1] at e
      cases e
      exact ⟨_, hs, p⟩
    · rw [List.getElem?_set_ne (fun z => h z.symm)] at e
      exact ok'.gam m p' e)
theorem s_frz {st : List Stmt} {i : Nat} {T : Option γ} {c : Cell} (j : Nat) (hr : PSs X st (tS F (Γ.set i (some c.d.pd)) (Δ.eraseIdx j) N T)) (hj : Δ[j]? = some c := by rfl) (hi : Γ[i]? = some (some (pV c.v)) := by rfl) : PSs X st (tS F Γ Δ N T) :=
  ⟨fun pins s σ H D I ⟨ok, g, e, f⟩ => by
    obtain ⟨H2, I2, ok2⟩ := inv_lkX (Φ := fun H2 => Fzs H H2 ∧ Ok F (Γ.set i (some c.d.pd)) (Δ.eraseIdx j) σ H2) I (ok.frzS hj hi fun H' f h => ⟨f.fz, h⟩)
    exact hr.run pins s σ H2 D I2 ⟨ok2.2, g, e, N.mono f ok2.1⟩⟩
/-- an expression for what it does -/
theorem s_expr {e : Expr} {pos : Pos} {β : Type} {T : Option γ} {k : β → Option γ} {E : β → Pd} {Δ' : β → Δs} (he : PE X e (tE true F Γ Δ T k E Δ')) (hr : ∀ b, PSs X rest (tS F Γ (Δ' b) N (k b))) (hs : swapsWith e none pos.line X.env = pure false := by rfl) :
    PSs X (.Expr e pos :: rest) (tS F Γ Δ N T) :=
  (pss_cons (ps_expr he hs) (pss_ex hr)).wk fun D σ H ⟨ok, g, e, f⟩ => ⟨ok, g, e, fun b v H' kb fz ok' _ => ⟨b, ok', g, kb, N.mono f fz.fz⟩⟩
/-! ends -/
abbrev Rt (ρ : Type) := ρ → VK → Prop
def fF {ρ : Type} (R : Rt ρ) : Fn ρ := ⟨fun _ r D => R r D.rt, fun h _ => h⟩
/-- a def's end: its value is of a kind; what it owned of its caller's -/
def RF {ρ : Type} (F : Fm) (P : ρ → Δs) (Rp : ρ → Pd) : Rt ρ := fun r rt => ∀ v H', Hk F (P r) H' → (Rp r).pr H' v → rt v H'
def RO {ρ : Type} (F : Fm) (P : ρ → Δs) (Ro : ρ → Od) : Rt ρ := fun r rt => ∀ v H', Hk F (⟨v, Ro r, none⟩ :: P r) H' → rt v H'
theorem s_ret {e : Expr} {pos : Pos} {β ρ : Type} {T : Option γ} {Δ' : β → Δs} {P : ρ → Δs} {Rp : ρ → Pd} {ι : ρ → γ} {rv : β → ρ} (hN : ∀ H r D, N.fin H (ι r) D → RF F P Rp r D.rt) (he : PE X e (tE true F Γ Δ T (fun b => some (ι (rv b))) (fun b => Rp (rv b)) Δ'))
    (hP : ∀ b, (P (rv b)).Sublist (Δ' b)) : PSs X [.Return (some e) pos] (tS F Γ Δ N T) :=
  (pss_one (ps_ret he)).wk fun D σ H ⟨ok, g, e, f⟩ => ⟨ok, g, e, fun b v H' kb fz ok' hv => by
    have eg : g = ι (rv b) := (Option.some.inj kb).symm
    rw [eg] at f
    exact hN _ _ D f v H' (ok'.hk.less (hP b)) hv⟩
theorem s_retO {e : Expr} {pos : Pos} {β ρ : Type} {T : Option γ} {Δ' : β → Δs} {P : ρ → Δs} {Ro : ρ → Od} {ι : ρ → γ} {rv : β → ρ} (hN : ∀ H r D, N.fin H (ι r) D → RO F P Ro r D.rt) (he : PE X e (tO true F Γ Δ T (fun b => some (ι (rv b))) (fun b => Ro (rv b)) Δ'))
    (hP : ∀ b, (P (rv b)).Sublist (Δ' b)) : PSs X [.Return (some e) pos] (tS F Γ Δ N T) :=
  (pss_one (ps_ret he)).wk fun D σ H ⟨ok, g, e, f⟩ => ⟨ok, g, e, fun b v H' kb fz ok' => by
    have eg : g = ι (rv b) := (Option.some.inj kb).symm
    rw [eg] at f
    exact hN _ _ D f v H' (ok'.ok.hk.less ((hP b).cons₂ _))⟩
end
end L3
end
section
set_option Elab.async false
set_option linter.all false
set_option maxRecDepth 100000
set_option maxHeartbeats 4000000
set_option autoImplicit true
namespace L3
open PySem PySem.Spec PyProof.Rows L2
section
variable {X : Cx} {W : Bool} {F : Fm} {Γ : Gm} {Δ : Δs} {γ : Type}
/-! ### tests -/
theorem x_tot {β : Type} {e : Expr} {T : Option γ} {E : β → Pd} {Δ' : β → Δs} (b0 : β) (hβ : ∀ b, b = b0) (he : PE X e (tE W F Γ Δ T (fun _ : β => T) E Δ')) : PE X e (tE W F Γ Δ T (fun _ : Unit => T) (fun _ => E b0) fun _ => Δ' b0) :=
  he.wk fun σ H Q ⟨ok, g, e, q⟩ => ⟨ok, g, e, fun b v H' kb f ok' hv => by
    rw [hβ b] at ok' hv
    exact q () v H' kb f ok' hv⟩
theorem t_val {e : Expr} {β : Type} {T : Option γ} {k : β → Option γ} {c : β → Bool} {Δ' : β → Δs} (he : PE X e (tE W F Γ Δ T k (fun b => pBl (c b)) Δ')) (hw : ∀ whole, isTrue e X.env whole = (do let v ← whole; standAt e.pos; holding [v] (truthy v)) := by intro _; rfl) :
    PT X e (tTs W F Γ Δ T k c Δ') :=
  (pt_val he hw).wk fun σ H Q ⟨ok, g, e, q⟩ => ⟨ok, g, e, fun b v H' kb f ok' hv => ⟨c b, hv, q b H' kb f ok'⟩⟩
theorem t_not {e : Expr} {pos : Pos} {β : Type} {T : Option γ} {k : β → Option γ} {c : β → Bool} {Δ' : β → Δs} (he : PT X e (tTs W F Γ Δ T k c Δ')) : PT X (.UnaryOp .Not e pos) (tTs W F Γ Δ T k (fun b => !c b) Δ') :=
  (pt_not he).wk fun σ H Q ⟨ok, g, e, q⟩ => ⟨ok, g, e, fun b H' kb f ok' => q b H' kb f ok'⟩
theorem x_not {e : Expr} {pos : Pos} {β : Type} {T : Option γ} {k : β → Option γ} {c : β → Bool} {Δ' : β → Δs} (he : PE X e (tE W F Γ Δ T k (fun b => pBl (c b)) Δ')) : PE X (.UnaryOp .Not e pos) (tE W F Γ Δ T k (fun b => pBl (!c b)) Δ') :=
  (pe_not he).wk fun σ H Q ⟨ok, g, e, q⟩ => ⟨ok, g, e, fun b v H' kb f ok' hv => ⟨c b, hv, q b _ H' kb f ok' rfl⟩⟩
theorem t_tot {β : Type} {e : Expr} {T : Option γ} {c : β → Bool} {Δ' : β → Δs} (b0 : β) (hβ : ∀ b, b = b0) (he : PT X e (tTs W F Γ Δ T (fun _ : β => T) c Δ')) : PT X e (tTs W F Γ Δ T (fun _ : Unit => T) (fun _ => c b0) fun _ => Δ' b0) :=
  he.wk fun σ H Q ⟨ok, g, e, q⟩ => ⟨ok, g, e, fun b H' kb f ok' => by
    rw [hβ b] at ok' ⊢
    exact q () H' kb f ok'⟩
section
variable {a b : Expr} {rest : List Expr} {pos : Pos} {c1 c2 : Bool} {T : Option γ}
abbrev tTot (W : Bool) (F : Fm) (Γ : Gm) (Δ : Δs) {γ : Type} (T : Option γ) (c : Bool) : TT := tTs W F Γ Δ T (fun _ : Unit => T) (fun _ => c) fun _ => Δ
abbrev eTot (W : Bool) (F : Fm) (Γ : Gm) (Δ : Δs) {γ : Type} (T : Option γ) (p : Pd) : TE := tE W F Γ Δ T (fun _ : Unit => T) (fun _ => p) fun _ => Δ
theorem w_and1 (ha : PT X a (tTs W F Γ Δ T k c Δ')) : PW X (.BoolOp .And [a] pos) (tTs W F Γ Δ T k c Δ') := pw_and1 ha
theorem w_or1 (ha : PT X a (tTs W F Γ Δ T k c Δ')) : PW X (.BoolOp .Or [a] pos) (tTs W F Γ Δ T k c Δ') := pw_or1 ha
theorem w_and (ha : PT X a (tTot W F Γ Δ T c1)) (hb : PW X (.BoolOp .And (b :: rest) pos) (tTot W F Γ Δ T c2)) : PW X (.BoolOp .And (a :: b :: rest) pos) (tTot W F Γ Δ T (c1 && c2)) :=
  (pw_and ha hb).wk fun σ H Q ⟨ok, g, e, q⟩ => ⟨ok, g, e, fun _ H1 kb f ok1 => by
    cases c1 with
    | true => exact iteT ⟨ok1, g, e, fun _ H2 kb2 f2 ok2 => q () H2 kb2 (f.trans f2) ok2⟩
    | false => exact iteF (q () H1 kb f ok1)⟩
theorem w_or (ha : PT X a (tTot W F Γ Δ T c1)) (hb : PW X (.BoolOp .Or (b :: rest) pos) (tTot W F Γ Δ T c2)) : PW X (.BoolOp .Or (a :: b :: rest) pos) (tTot W F Γ Δ T (c1 || c2)) :=
  (pw_or ha hb).wk fun σ H Q ⟨ok, g, e, q⟩ => ⟨ok, g, e, fun _ H1 kb f ok1 => by
    cases c1 with
    | true => exact iteT (q () H1 kb f ok1)
    | false => exact iteF ⟨ok1, g, e, fun _ H2 kb2 f2 ok2 => q () H2 kb2 (f.trans f2) ok2⟩⟩
theorem v_one {op} {t : TE} (h : PE X a t) : PE X (.BoolOp op [a] pos) t := pe_one h
theorem v_and (ha : PE X a (eTot W F Γ Δ T (pBl c1))) (hb : PE X (.BoolOp .And (b :: rest) pos) (eTot W F Γ Δ T (pBl c2))) : PE X (.BoolOp .And (a :: b :: rest) pos) (eTot W F Γ Δ T (pBl (c1 && c2))) :=
  (pe_and ha hb).wk fun σ H Q ⟨ok, g, e, q⟩ => ⟨ok, g, e, fun _ v H1 kb f ok1 hv => ⟨c1, hv, by
    cases c1 with
    | true => exact iteT ⟨ok1, g, e, fun _ w H2 kb2 f2 ok2 hw => q () w H2 kb2 (f.trans f2) ok2 hw⟩
    | false => exact iteF (q () _ H1 kb f ok1 rfl)⟩⟩
theorem v_or (ha : PE X a (eTot W F Γ Δ T (pBl c1))) (hb : PE X (.BoolOp .Or (b :: rest) pos) (eTot W F Γ Δ T (pBl c2))) : PE X (.BoolOp .Or (a :: b :: rest) pos) (eTot W F Γ Δ T (pBl (c1 || c2))) :=
  (pe_or ha hb).wk fun σ H Q ⟨ok, g, e, q⟩ => ⟨ok, g, e, fun _ v H1 kb f ok1 hv => ⟨c1, hv, by
    cases c1 with
    | true => exact iteT (q () _ H1 kb f ok1 rfl)
    | false => exact iteF ⟨ok1, g, e, fun _ w H2 kb2 f2 ok2 hw => q () w H2 kb2 (f.trans f2) ok2 hw⟩⟩⟩
end
section
variable {a b : Expr} {rest : List Expr} {pos : Pos} {β1 β2 S : Type} {T : Option γ} {c1 : β1 → Bool} {c2 : β1 → β2 → Bool} {Δ1 : β1 → Δs} {Δ2 : β1 → β2 → Δs} {T2 : β1 → Option (Bool × S)} {s1 : β1 → S} {s2 : β1 → β2 → S} {ΔS : β1 → S → Δs} {k : β1 × (Bool × S) → Option γ}
theorem w_andM (ha : PT X a (tTs W F Γ Δ T (fun b1 => (if c1 b1 = true then T2 b1 else some (false, s1 b1)).bind fun c => k (b1, c)) c1 Δ1)) (hb : ∀ b1, PW X (.BoolOp .And (b :: rest) pos) (tTs W F Γ (Δ1 b1) (T2 b1) (fun b2 => some (c2 b1 b2, s2 b1 b2)) (c2 b1) (Δ2 b1)))
    (h1 : ∀ b1, Δ1 b1 = ΔS b1 (s1 b1)) (h2 : ∀ b1 b2, Δ2 b1 b2 = ΔS b1 (s2 b1 b2)) : PW X (.BoolOp .And (a :: b :: rest) pos) (tTs W F Γ Δ T k (fun b => b.2.1) fun b => ΔS b.1 b.2.2) :=
  (pw_and ha (pw_ex hb)).wk fun σ H Q ⟨ok, g, e, q⟩ => ⟨ok, g, e, fun b1 H1 kb f ok1 => by
    cases h : c1 b1 with
    | true =>
      try dsimp only at kb
      rw [if_pos h] at kb
      obtain ⟨cs, ec, kc⟩ := bind_some kb
      refine iteT ⟨b1, ok1, cs, ec, fun b2 H2 kb2 f2 ok2 => ?_⟩
      have ecs : (c2 b1 b2, s2 b1 b2) = cs := Option.some.inj kb2
      rw [← ecs] at kc
      rw [h2] at ok2
      exact q (b1, (c2 b1 b2, s2 b1 b2)) H2 kc (f.trans f2) ok2
    | false =>
      try dsimp only at kb
      rw [if_neg (by rw [h]; exact Bool.false_ne_true)] at kb
      rw [h1] at ok1
      exact iteF (q (b1, (false, s1 b1)) H1 kb f ok1)⟩
theorem w_orM (ha : PT X a (tTs W F Γ Δ T (fun b1 => (if c1 b1 = true then some (true, s1 b1) else T2 b1).bind fun c => k (b1, c)) c1 Δ1)) (hb : ∀ b1, PW X (.BoolOp .Or (b :: rest) pos) (tTs W F Γ (Δ1 b1) (T2 b1) (fun b2 => some (c2 b1 b2, s2 b1 b2)) (c2 b1) (Δ2 b1)))
    (h1 : ∀ b1, Δ1 b1 = ΔS b1 (s1 b1)) (h2 : ∀ b1 b2, Δ2 b1 b2 = ΔS b1 (s2 b1 b2)) : PW X (.BoolOp .Or (a :: b :: rest) pos) (tTs W F Γ Δ T k (fun b => b.2.1) fun b => ΔS b.1 b.2.2) :=
  (pw_or ha (pw_ex hb)).wk fun σ H Q ⟨ok, g, e, q⟩ => ⟨ok, g, e, fun b1 H1 kb f ok1 => by
    cases h : c1 b1 with
    | true =>
      try dsimp only at kb
      rw [if_pos h] at kb
      rw [h1] at ok1
      exact iteT (q (b1, (true, s1 b1)) H1 kb f ok1)
    | false =>
      try dsimp only at kb
      rw [if_neg (by rw [h]; exact Bool.false_ne_true)] at kb
      obtain ⟨cs, ec, kc⟩ := bind_some kb
      refine iteF ⟨b1, ok1, cs, ec, fun b2 H2 kb2 f2 ok2 => ?_⟩
      have ecs : (c2 b1 b2, s2 b1 b2) = cs := Option.some.inj kb2
      rw [← ecs] at kc
      rw [h2] at ok2
      exact q (b1, (c2 b1 b2, s2 b1 b2)) H2 kc (f.trans f2) ok2⟩
theorem v_andM (ha : PE X a (tE W F Γ Δ T (fun b1 => (if c1 b1 = true then T2 b1 else some (false, s1 b1)).bind fun c => k (b1, c)) (fun b => pBl (c1 b)) Δ1)) (hb : ∀ b1, PE X (.BoolOp .And (b :: rest) pos) (tE W F Γ (Δ1 b1) (T2 b1) (fun b2 => some (c2 b1 b2, s2 b1 b2)) (fun b2 => pBl (c2 b1 b2)) (Δ2 b1)))
    (h1 : ∀ b1, Δ1 b1 = ΔS b1 (s1 b1)) (h2 : ∀ b1 b2, Δ2 b1 b2 = ΔS b1 (s2 b1 b2)) : PE X (.BoolOp .And (a :: b :: rest) pos) (tE W F Γ Δ T k (fun b => pBl b.2.1) fun b => ΔS b.1 b.2.2) :=
  (pe_and ha (pe_ex hb)).wk fun σ H Q ⟨ok, g, e, q⟩ => ⟨ok, g, e, fun b1 v H1 kb f ok1 hv => ⟨c1 b1, hv, by
    cases h : c1 b1 with
    | true =>
      try dsimp only at kb
      rw [if_pos h] at kb
      obtain ⟨cs, ec, kc⟩ := bind_some kb
      refine iteT ⟨b1, ok1, cs, ec, fun b2 w H2 kb2 f2 ok2 hw => ?_⟩
      have ecs : (c2 b1 b2, s2 b1 b2) = cs := Option.some.inj kb2
      rw [← ecs] at kc
      rw [h2] at ok2
      exact q (b1, (c2 b1 b2, s2 b1 b2)) w H2 kc (f.trans f2) ok2 hw
    | false =>
      try dsimp only at kb
      rw [if_neg (by rw [h]; exact Bool.false_ne_true)] at kb
      rw [h1] at ok1
      exact iteF (q (b1, (false, s1 b1)) _ H1 kb f ok1 rfl)⟩⟩
theorem v_orM (ha : PE X a (tE W F Γ Δ T (fun b1 => (if c1 b1 = true then some (true, s1 b1) else T2 b1).bind fun c => k (b1, c)) (fun b => pBl (c1 b)) Δ1)) (hb : ∀ b1, PE X (.BoolOp .Or (b :: rest) pos) (tE W F Γ (Δ1 b1) (T2 b1) (fun b2 => some (c2 b1 b2, s2 b1 b2)) (fun b2 => pBl (c2 b1 b2)) (Δ2 b1)))
    (h1 : ∀ b1, Δ1 b1 = ΔS b1 (s1 b1)) (h2 : ∀ b1 b2, Δ2 b1 b2 = ΔS b1 (s2 b1 b2)) : PE X (.BoolOp .Or (a :: b :: rest) pos) (tE W F Γ Δ T k (fun b => pBl b.2.1) fun b => ΔS b.1 b.2.2) :=
  (pe_or ha (pe_ex hb)).wk fun σ H Q ⟨ok, g, e, q⟩ => ⟨ok, g, e, fun b1 v H1 kb f ok1 hv => ⟨c1 b1, hv, by
    cases h : c1 b1 with
    | true =>
      try dsimp only at kb
      rw [if_pos h] at kb
      rw [h1] at ok1
      exact iteT (q (b1, (true, s1 b1)) _ H1 kb f ok1 rfl)
    | false =>
      try dsimp only at kb
      rw [if_neg (by rw [h]; exact Bool.false_ne_true)] at kb
      obtain ⟨cs, ec, kc⟩ := bind_some kb
      refine iteF ⟨b1, ok1, cs, ec, fun b2 w H2 kb2 f2 ok2 hw => ?_⟩
      have ecs : (c2 b1 b2, s2 b1 b2) = cs := Option.some.inj kb2
      rw [← ecs] at kc
      rw [h2] at ok2
      exact q (b1, (c2 b1 b2, s2 b1 b2)) w H2 kc (f.trans f2) ok2 hw⟩⟩
end

/-! ### blocks -/
inductive Bo (S τ : Type) where
  | nx (s : S)
  | tm (t : τ)
inductive Tm (S ρ : Type) where
  | ct (s : S)
  | bk (s : S)
  | rt (r : ρ)
abbrev Cxt := Gm × Δs
def nxOk (F : Fm) (c : Cxt) (H : Hp) (n : SS → Hp → Prop) : Prop := ∀ σ' H', Fzs H H' → Ok F c.1 c.2 σ' H' → n σ' H'
theorem nxOk.mono {F : Fm} {c : Cxt} {H H' : Hp} {n : SS → Hp → Prop} (h : nxOk F c H n) (f : Fzs H H') : nxOk F c H' n := fun σ1 H1 f1 => h σ1 H1 (f.trans f1)
def fN {S : Type} (F : Fm) (C : S → Cxt) : Fn S := ⟨fun H s D => nxOk F (C s) H D.nx, fun h f => nxOk.mono h f⟩
def fB {S τ : Type} (F : Fm) (C : S → Cxt) (Tf : Fn τ) : Fn (Bo S τ) := ⟨fun H o D => match o with
  | .nx s => nxOk F (C s) H D.nx
  | .tm t => Tf.fin H t D, fun {H H' g D} h f => by
    cases g with
    | nx s => exact nxOk.mono h f
    | tm t => exact Tf.mono h f⟩
def fT {S ρ : Type} (F : Fm) (C : S → Cxt) (R : Rt ρ) : Fn (Tm S ρ) := ⟨fun H o D => match o with
  | .ct s => nxOk F (C s) H D.ct
  | .bk s => nxOk F (C s) H D.bk
  | .rt r => R r D.rt, fun {H H' g D} h f => by
    cases g with
    | ct s => exact nxOk.mono h f
    | bk s => exact nxOk.mono h f
    | rt r => exact h⟩
/-- the end hangs not on what follows -/
def Ins {γ : Type} (N : Fn γ) : Prop := ∀ H g D n, N.fin H g D → N.fin H g { D with nx := n }
theorem ins_F {ρ : Type} (R : Rt ρ) : Ins (fF R) := fun _ _ _ _ h => h
theorem ins_T {S ρ : Type} {F : Fm} {C : S → Cxt} {R : Rt ρ} : Ins (fT F C R) := fun H g D n h => by cases g <;> exact h
def inB {S τ : Type} (T : Option τ) : Option (Bo S τ) := T.bind fun t => some (.tm t)
def boK {S τ γ : Type} (k : S → Option γ) (ι : τ → γ) : Bo S τ → Option γ
  | .nx s => k s
  | .tm t => some (ι t)
variable {N : Fn γ} {rest : List Stmt}
/-- the block's end -/
theorem s_end {S : Type} {C : S → Cxt} {T : Option S} (s : S) (hT : T = some s) (g : SubG (C s).1 Γ) (h : (C s).2.Sublist Δ) : PSs X [] (tS F Γ Δ (fN F C) T) :=
  pss_nil.wk fun D σ H ⟨ok, g', e, f⟩ => by
    rw [hT] at e
    cases e
    exact f σ H (Fzs.refl H) (ok.wk g h)
theorem s_endB {S τ : Type} {C : S → Cxt} {Tf : Fn τ} (s : S) (g : SubG (C s).1 Γ) (h : (C s).2.Sublist Δ) : PSs X [] (tS F Γ Δ (fB F C Tf) (some (.nx s))) :=
  pss_nil.wk fun D σ H ⟨ok, g', e, f⟩ => by
    cases e
    exact f σ H (Fzs.refl H) (ok.wk g h)
theorem s_tm {S τ : Type} {C : S → Cxt} {Tf : Fn τ} {st : List Stmt} {T : Option τ} (h : PSs X st (tS F Γ Δ Tf T)) : PSs X st (tS F Γ Δ (fB F C Tf) (inB T)) :=
  h.wk fun D σ H ⟨ok, g', e, f⟩ => by
    obtain ⟨t, et, e2⟩ := bind_some e
    cases e2
    exact ⟨ok, t, et, f⟩
theorem s_brk {S ρ : Type} {C : S → Cxt} {R : Rt ρ} {pos : Pos} (s : S) (g : SubG (C s).1 Γ) (h : (C s).2.Sublist Δ) : PSs X [.Break pos] (tS F Γ Δ (fT F C R) (some (.bk s))) :=
  (pss_one ps_break).wk fun D σ H ⟨ok, g', e, f⟩ => by
    cases e
    exact f σ H (Fzs.refl H) (ok.wk g h)
theorem s_cont {S ρ : Type} {C : S → Cxt} {R : Rt ρ} {pos : Pos} (s : S) (g : SubG (C s).1 Γ) (h : (C s).2.Sublist Δ) : PSs X [.Continue pos] (tS F Γ Δ (fT F C R) (some (.ct s))) :=
  (pss_one ps_continue).wk fun D σ H ⟨ok, g', e, f⟩ => by
    cases e
    exact f σ H (Fzs.refl H) (ok.wk g h)
/-! ### if -/
section
variable {ce : Expr} {A B : List Stmt} {pos : Pos} {β : Type} {T : Option γ} {c : β → Bool} {Δ' : β → Δs}
theorem s_if0 {N1 N2 : Fn γ} {t : TS} {u : TS} {k : β → Option γ} (hc : PT X ce (tTs true F Γ Δ T k c Δ')) (ha : PSs X A t) (hb : PSs X B u) (hr : PSs X rest v) {t' : TS}
    (hw : ∀ D σ H, t' D σ H → Ok F Γ Δ σ H ∧ ∃ g, T = some g ∧ ∀ b H', k b = some g → St true H H' → Ok F Γ (Δ' b) σ H' → (c b = true → t { D with nx := v D } σ H') ∧ (c b = false → u { D with nx := v D } σ H')) : PSs X (.If ce A B pos :: rest) t' :=
  (pss_cons (ps_if hc ha hb) hr).wk fun D σ H h => by
    obtain ⟨ok, g, e, q⟩ := hw D σ H h
    refine ⟨ok, g, e, fun b H' kb f ok' => ?_⟩
    obtain ⟨q1, q2⟩ := q b H' kb f ok'
    cases hcb : c b with
    | true => exact iteT (q1 hcb)
    | false => exact iteF (q2 hcb)
/-- the first part ends the block: what follows is the other way -/
theorem s_ifT {T1 T2 : β → Option γ} (hI : Ins N) (hc : PT X ce (tTs true F Γ Δ T (fun b => if c b = true then T1 b else T2 b) c Δ')) (ha : ∀ b, PSs X A (tS F Γ (Δ' b) N (T1 b))) (hr : ∀ b, PSs X rest (tS F Γ (Δ' b) N (T2 b))) : PSs X (.If ce A [] pos :: rest) (tS F Γ Δ N T) :=
  s_if0 (N1 := N) (N2 := N) hc (pss_ex ha) pss_nil (pss_ex hr) fun D σ H ⟨ok, g, e, f⟩ => ⟨ok, g, e, fun b H' kb fz ok' => ⟨fun h => by
    try dsimp only at kb
    rw [if_pos h] at kb
    exact ⟨b, ok', g, kb, hI _ _ _ _ (N.mono f fz.fz)⟩, fun h => by
    try dsimp only at kb
    rw [if_neg (by rw [h]; exact Bool.false_ne_true)] at kb
    exact ⟨b, ok', g, kb, N.mono f fz.fz⟩⟩⟩
/-- .. in a block that goes on -/
theorem s_ifB {S τ : Type} {C : S → Cxt} {Tf : Fn τ} {T : Option (Bo S τ)} {T1 : β → Option τ} {T2 : β → Option (Bo S τ)} (hI : Ins Tf) (hc : PT X ce (tTs true F Γ Δ T (fun b => if c b = true then inB (T1 b) else T2 b) c Δ')) (ha : ∀ b, PSs X A (tS F Γ (Δ' b) Tf (T1 b))) (hr : ∀ b, PSs X rest (tS F Γ (Δ' b) (fB F C Tf) (T2 b))) : PSs X (.If ce A [] pos :: rest) (tS F Γ Δ (fB F C Tf) T) :=
  s_if0 (N1 := fB F C Tf) (N2 := fB F C Tf) hc (pss_ex ha) pss_nil (pss_ex hr) fun D σ H ⟨ok, g, e, f⟩ => ⟨ok, g, e, fun b H' kb fz ok' => ⟨fun h => by
    try dsimp only at kb
    rw [if_pos h] at kb
    obtain ⟨t, et, e2⟩ := bind_some kb
    cases e2
    exact ⟨b, ok', t, et, hI _ _ _ _ (Tf.mono f fz.fz)⟩, fun h => by
    try dsimp only at kb
    rw [if_neg (by rw [h]; exact Bool.false_ne_true)] at kb
    exact ⟨b, ok', g, kb, (fB F C Tf).mono f fz.fz⟩⟩⟩
/-- both parts end the block -/
theorem s_ifE {T1 T2 : β → Option γ} (hI : Ins N) (hc : PT X ce (tTs true F Γ Δ T (fun b => if c b = true then T1 b else T2 b) c Δ')) (ha : ∀ b, PSs X A (tS F Γ (Δ' b) N (T1 b))) (hb : ∀ b, PSs X B (tS F Γ (Δ' b) N (T2 b))) : PSs X [.If ce A B pos] (tS F Γ Δ N T) :=
  s_if0 (N1 := N) (N2 := N) hc (pss_ex ha) (pss_ex hb) pss_nil fun D σ H ⟨ok, g, e, f⟩ => ⟨ok, g, e, fun b H' kb fz ok' => ⟨fun h => by
    try dsimp only at kb
    rw [if_pos h] at kb
    exact ⟨b, ok', g, kb, hI _ _ _ _ (N.mono f fz.fz)⟩, fun h => by
    try dsimp only at kb
    rw [if_neg (by rw [h]; exact Bool.false_ne_true)] at kb
    exact ⟨b, ok', g, kb, hI _ _ _ _ (N.mono f fz.fz)⟩⟩⟩
/-- both parts go on -/
theorem s_ifN {S : Type} {C : S → Cxt} {T1 T2 : β → Option S} {k2 : β → S → Option γ} (hc : PT X ce (tTs true F Γ Δ T (fun b => (if c b = true then T1 b else T2 b).bind (k2 b)) c Δ')) (ha : ∀ b, PSs X A (tS F Γ (Δ' b) (fN F C) (T1 b))) (hb : ∀ b, PSs X B (tS F Γ (Δ' b) (fN F C) (T2 b)))
    (hr : ∀ b s, PSs X rest (tS F (C s).1 (C s).2 N (k2 b s))) : PSs X (.If ce A B pos :: rest) (tS F Γ Δ N T) :=
  s_if0 (N1 := N) (N2 := N) hc (pss_ex ha) (pss_ex hb) (pss_ex fun b => pss_ex fun s => hr b s) fun D σ H ⟨ok, g, e, f⟩ => ⟨ok, g, e, fun b H' kb fz ok' => by
    obtain ⟨s, es, ks⟩ := bind_some kb
    refine ⟨fun h => ?_, fun h => ?_⟩
    · rw [if_pos h] at es
      exact ⟨b, ok', s, es, fun σ2 H2 f2 ok2 => ⟨b, s, ok2, g, ks, N.mono f (fz.fz.trans f2)⟩⟩
    · rw [if_neg (by rw [h]; exact Bool.false_ne_true)] at es
      exact ⟨b, ok', s, es, fun σ2 H2 f2 ok2 => ⟨b, s, ok2, g, ks, N.mono f (fz.fz.trans f2)⟩⟩⟩
/-- each part goes on, or ends the block -/
theorem s_ifM {S τ : Type} {C : S → Cxt} {Tf : Fn τ} {ι : τ → γ} {T1 T2 : β → Option (Bo S τ)} {k2 : β → S → Option γ} (hI : Ins Tf) (hι : ∀ H t D, N.fin H (ι t) D → Tf.fin H t D) (hc : PT X ce (tTs true F Γ Δ T (fun b => (if c b = true then T1 b else T2 b).bind (boK (k2 b) ι)) c Δ'))
    (ha : ∀ b, PSs X A (tS F Γ (Δ' b) (fB F C Tf) (T1 b))) (hb : ∀ b, PSs X B (tS F Γ (Δ' b) (fB F C Tf) (T2 b))) (hr : ∀ b s, PSs X rest (tS F (C s).1 (C s).2 N (k2 b s))) : PSs X (.If ce A B pos :: rest) (tS F Γ Δ N T) :=
  s_if0 (N1 := N) (N2 := N) hc (pss_ex ha) (pss_ex hb) (pss_ex fun b => pss_ex fun s => hr b s) fun D σ H ⟨ok, g, e, f⟩ => ⟨ok, g, e, fun b H' kb fz ok' => by
    obtain ⟨o, es, ks⟩ := bind_some kb
    have fin : (fB F C Tf).fin H' o { D with nx := fun σ H => ∃ b s, tS F (C s).1 (C s).2 N (k2 b s) D σ H } := by
      cases o with
      | nx s => exact fun σ2 H2 f2 ok2 => ⟨b, s, ok2, g, ks, N.mono f (fz.fz.trans f2)⟩
      | tm t =>
        have eg : ι t = g := Option.some.inj ks
        subst eg
        exact hI _ _ _ _ (hι _ _ _ (N.mono f fz.fz))
    refine ⟨fun h => ?_, fun h => ?_⟩
    · rw [if_pos h] at es
      exact ⟨b, ok', o, es, fin⟩
    · rw [if_neg (by rw [h]; exact Bool.false_ne_true)] at es
      exact ⟨b, ok', o, es, fin⟩⟩
end
end
end L3
end
section
set_option Elab.async false
set_option linter.all false
set_option maxRecDepth 100000
set_option maxHeartbeats 4000000
namespace L3
open PySem PySem.Spec PyProof.Rows L2
section
variable {X : Cx} {W : Bool} {F : Fm} {Γ : Gm} {Δ : Δs} {γ : Type}
/-! ### lists that are read: locked, or a cell of one's own -/
def RL {α : Type} (E : α → Pd) (xs : List α) (H : Hp) (v : V) : Prop := ∃ a vs, v = .ref a ∧ Rd H a (.lst vs) ∧ xs.length ≤ sizeLine ∧ Paired (fun x u => (E x).pr H u) xs vs
def RdL {α : Type} (Δ : Δs) (p : Pd) (E : α → Pd) (xs : List α) : Prop := ∀ F H v, Hk F Δ H → p.pr H v → RL E xs H v
theorem rdF {α : Type} {E : α → Pd} {xs : List α} : RdL Δ (pL E xs) E xs := fun _ _ _ _ ⟨a, o, vs, e, h, z, p⟩ => ⟨a, vs, e, .inr ⟨o, h⟩, z, p⟩
theorem rdO {α : Type} {E : α → Pd} {xs : List α} {v : V} {prm : Option Nat} (j : Nat) (h : Δ[j]? = some ⟨v, oL E xs, prm⟩ := by rfl) : RdL Δ (pV v) E xs := fun F H w hk e => by
  have e : w = v := e
  subst e
  obtain ⟨G, p, vs, _, ev, hp, z, q⟩ := hk.at h
  exact ⟨p, vs, ev, .inl hp, z, q⟩
theorem RL.sq {α : Type} {E : α → Pd} {xs : List α} {H : Hp} {v : V} {K : PySem.W.Frag} (h : RL E xs H v) : ∃ a vs, v = .ref a ∧ SqL K H a vs ∧ xs.length ≤ sizeLine ∧ Paired (fun x u => (E x).pr H u) xs vs := by
  obtain ⟨a, vs, e, r, z, p⟩ := h
  exact ⟨a, vs, e, .inl r, z, p⟩
/-! ### paired lists -/
theorem paired_at {α β : Type} {P : α → β → Prop} : ∀ {xs : List α} {vs : List β} {i : Nat} {x : α}, Paired P xs vs → xs[i]? = some x → ∃ v, vs[i]? = some v ∧ P x v
  | _, _, _, _, .nil, e => by simp at e
  | _, _, 0, _, .cons r _, e => by simp at e; subst e; exact ⟨_, rfl, r⟩
  | _, _, i + 1, x, .cons _ t, e => by
    obtain ⟨v, h1, h2⟩ := paired_at (i := i) (x := x) t (by simpa using e)
    exact ⟨v, by simpa using h1, h2⟩
theorem paired_atI {α β : Type} {P : α → β → Prop} {xs : List α} {vs : List β} {i : Int} {x : α} (h : Paired P xs vs) (e : atI xs i = some x) : ∃ v, atI vs i = some v ∧ P x v := by
  unfold atI at e ⊢
  rw [← paired_len h]
  obtain ⟨j, ej, ex⟩ := bind_some e
  obtain ⟨v, hv, p⟩ := paired_at h ex
  exact ⟨v, by rw [ej]; exact hv, p⟩
theorem paired_app {α β : Type} {P : α → β → Prop} : ∀ {xs ys : List α} {vs ws : List β}, Paired P xs vs → Paired P ys ws → Paired P (xs ++ ys) (vs ++ ws)
  | _, _, _, _, .nil, s => s
  | _, _, _, _, .cons r t, s => .cons r (paired_app t s)
theorem paired_drop {α β : Type} {P : α → β → Prop} : ∀ (n : Nat) {xs : List α} {vs : List β}, Paired P xs vs → Paired P (xs.drop n) (vs.drop n)
  | 0, _, _, h => h
  | _ + 1, _, _, .nil => .nil
  | n + 1, _, _, .cons _ t => paired_drop n t
theorem paired_take {α β : Type} {P : α → β → Prop} : ∀ (n : Nat) {xs : List α} {vs : List β}, Paired P xs vs → Paired P (xs.take n) (vs.take n)
  | 0, _, _, _ => .nil
  | _ + 1, _, _, .nil => .nil
  | n + 1, _, _, .cons r t => .cons r (paired_take n t)
theorem paired_set {α β : Type} {P : α → β → Prop} {x : α} {v : β} (r : P x v) : ∀ {xs : List α} {vs : List β} (i : Nat), Paired P xs vs → Paired P (xs.set i x) (vs.set i v)
  | _, _, _, .nil => .nil
  | _, _, 0, .cons _ t => .cons r t
  | _, _, i + 1, .cons q t => .cons q (paired_set r i t)
theorem paired_rev {α β : Type} {P : α → β → Prop} : ∀ {xs : List α} {vs : List β}, Paired P xs vs → Paired P xs.reverse vs.reverse
  | _, _, .nil => .nil
  | _, _, .cons r t => by
    rw [List.reverse_cons, List.reverse_cons]
    exact paired_app (paired_rev t) (.cons r .nil)
theorem paired_ints {H : Hp} : ∀ {xs : List Int} {vs : List V}, Paired (fun x u => (pInt x).pr H u) xs vs → vs = xs.map V.int
  | _, _, .nil => rfl
  | _, _, .cons r t => by rw [List.map_cons, ← paired_ints t]; exact congrArg (· :: _) r
theorem paired_strs {H : Hp} : ∀ {xs : List Str} {vs : List V}, Paired (fun x u => (pStr x).pr H u) xs vs → vs = xs.map V.str
  | _, _, .nil => rfl
  | _, _, .cons r t => by rw [List.map_cons, ← paired_strs t]; exact congrArg (· :: _) r
theorem paired_bls {H : Hp} : ∀ {xs : List Bool} {vs : List V}, Paired (fun x u => (pBl x).pr H u) xs vs → vs = xs.map V.bl
  | _, _, .nil => rfl
  | _, _, .cons r t => by rw [List.map_cons, ← paired_bls t]; exact congrArg (· :: _) r
theorem ints_paired {H : Hp} : ∀ xs : List Int, Paired (fun x u => (pInt x).pr H u) xs (xs.map V.int)
  | [] => .nil
  | _ :: xs => .cons rfl (ints_paired xs)
theorem strs_paired {H : Hp} : ∀ xs : List Str, Paired (fun x u => (pStr x).pr H u) xs (xs.map V.str)
  | [] => .nil
  | _ :: xs => .cons rfl (strs_paired xs)
/-! ### list operations -/
section
variable {a b : Expr} {pos : Pos} {β1 β2 α : Type} {T : Option γ} {k1 : β1 → Option γ} {Δ1 : β1 → Δs} {Δ2 : β1 → β2 → Δs} {E1 : β1 → Pd} {Ee : α → Pd} {xs : β1 → β2 → List α} {j : β1 → β2 → Int}
/-- xs[i] -/
theorem x_ixL {k : (β1 × β2) × α → Option γ} (ha : PE X a (tE W F Γ Δ T k1 E1 Δ1)) (hb : ∀ b1, PE X b (tE W F Γ (Δ1 b1) (k1 b1) (fun b2 => (atI (xs b1 b2) (j b1 b2)).bind fun x => k ((b1, b2), x)) (fun b => pInt (j b1 b)) (Δ2 b1)))
    (rd : ∀ b1 b2, RdL (Δ2 b1 b2) (E1 b1) Ee (xs b1 b2)) (hs : PlainIx b := by exact fun _ _ => rfl) : PE X (.Subscript a b pos) (tE W F Γ Δ T k (fun b => Ee b.2) fun b => Δ2 b.1.1 b.1.2) :=
  x2p (b_ix ix_list hs) ha hb fun b1 b2 x σ v w H Q ok e hv hw q => by
    obtain ⟨p, vs, ev, sq, _, pr⟩ := (rd b1 b2 F H v ok.hk hv).sq (K := X.K)
    obtain ⟨u, eu, pu⟩ := paired_atI pr e
    exact ⟨p, vs, j b1 b2, u, ev, hw, sq, eu, q u pu⟩
end
section
variable {a : Expr} {pos p : Pos} {β α : Type} {T : Option γ} {Δ1 : β → Δs} {E1 : β → Pd} {Ee : α → Pd} {xs : β → List α} {k : β → Option γ}
/-- len(xs) -/
theorem x_lenL (hm : X.mg "len" = none) (ha : PE X a (tE W F Γ Δ T k E1 Δ1)) (rd : ∀ b, RdL (Δ1 b) (E1 b) Ee (xs b)) (hg : Gl X "len" := by rfl) (hs : starEach [a] X.env = (false, eval a X.env) :: starEach [] X.env := by rfl) : PE X (.Call (.Name "len" p) [a] [] pos) (tE W F Γ Δ T k (fun b => pInt ((xs b).length : Int)) Δ1) :=
  x1t (u_callB call_len_seq hg hm PySem.boot_len (by decide) (by decide) hs) ha fun b σ v H Q ok hv q => by
    obtain ⟨p, vs, ev, sq, _, pr⟩ := (rd b F H v ok.hk hv).sq (K := X.K)
    rw [ev]
    exact ⟨p, vs, rfl, .inl sq, by rw [← paired_len pr]; exact q _ rfl⟩
/-- int(n) -/
theorem x_intI {i : β → Int} (hm : X.mg "int" = none) (ha : PE X a (tE W F Γ Δ T k (fun b => pInt (i b)) Δ1)) (hg : Gl X "int" := by rfl) (hs : starEach [a] X.env = (false, eval a X.env) :: starEach [] X.env := by rfl) : PE X (.Call (.Name "int" p) [a] [] pos) (tE W F Γ Δ T k (fun b => pInt (i b)) Δ1) :=
  x1t (u_callTy call_int1 hg hm (by decide +kernel) (by decide) (by decide) hs) ha fun b σ v H Q ok hv q => .inl ⟨i b, by rw [show v = .int (i b) from hv], q _ rfl⟩
theorem x_intB {c : β → Bool} (hm : X.mg "int" = none) (ha : PE X a (tE W F Γ Δ T k (fun b => pBl (c b)) Δ1)) (hg : Gl X "int" := by rfl) (hs : starEach [a] X.env = (false, eval a X.env) :: starEach [] X.env := by rfl) : PE X (.Call (.Name "int" p) [a] [] pos) (tE W F Γ Δ T k (fun b => pInt (if c b then 1 else 0)) Δ1) :=
  x1t (u_callTy call_int1 hg hm (by decide +kernel) (by decide) (by decide) hs) ha fun b σ v H Q ok hv q => .inr ⟨c b, by rw [show v = .bl (c b) from hv], q _ rfl⟩
/-- list(xs) -/
theorem x_listL (hm : X.mg "list" = none) (ha : PE X a (tE W F Γ Δ T k E1 Δ1)) (rd : ∀ b, RdL (Δ1 b) (E1 b) Ee (xs b)) (hg : Gl X "list" := by rfl) (hs : starEach [a] X.env = (false, eval a X.env) :: starEach [] X.env := by rfl) : PE X (.Call (.Name "list" p) [a] [] pos) (tO W F Γ Δ T k (fun b => oL Ee (xs b)) Δ1) :=
  x1n (u_callTy call_list_of hg hm (by decide +kernel) (by decide) (by decide) hs) ha fun b σ v H Q ok hv q => by
    obtain ⟨p, vs, ev, sq, z, pr⟩ := (rd b F H v ok.hk hv).sq (K := X.K)
    rw [ev]
    exact ⟨p, vs, rfl, .inl sq, fun l hl => q l vs hl z pr⟩
end
/-! ### stores -/
section
variable {N : Fn γ} {rest : List Stmt}
/-- xs[i] = e -/
theorem s_setL {o i e : Expr} {pos pos' : Pos} {β0 β1 β2 α : Type} {T : Option γ} {k0 : β0 → Option γ} {k1 : β0 → β1 → Option γ} {k : (β0 × β1) × β2 → Option γ} {Δ0 : β0 → Δs} {Δ1 : β0 → β1 → Δs} {Δ2 : β0 → β1 → β2 → Δs} {Ee : α → Pd} {y : β0 → α} {n : β0 → β1 → β2 → Int} {xs : β0 → β1 → β2 → List α} {v : V} {prm : Option Nat} (j : Nat)
    (he : PE X e (tE true F Γ Δ T k0 (fun b => Ee (y b)) Δ0)) (ho : ∀ b0, PE X o (tE true F Γ (Δ0 b0) (k0 b0) (k1 b0) (fun _ => pV v) (Δ1 b0)))
    (hi : ∀ b0 b1, PE X i (tE true F Γ (Δ1 b0 b1) (k1 b0 b1) (fun b2 => (ixN (xs b0 b1 b2).length (n b0 b1 b2)).bind fun m => (fun (_ : Nat) => k ((b0, b1), b2)) m) (fun b2 => pInt (n b0 b1 b2)) (Δ2 b0 b1)))
    (hj : ∀ b0 b1 b2, (Δ2 b0 b1 b2)[j]? = some ⟨v, oL Ee (xs b0 b1 b2), prm⟩)
    (hr : ∀ b : (β0 × β1) × β2, PSs X rest (tS F Γ ((Δ2 b.1.1 b.1.2 b.2).set j ⟨v, oL Ee ((xs b.1.1 b.1.2 b.2).set ((ixN (xs b.1.1 b.1.2 b.2).length (n b.1.1 b.1.2 b.2)).getD 0) (y b.1.1)), prm⟩) N (k b)))
    (hs : swapsWithSole [.Subscript o i pos'] e pos.line X.env = pure false := by rfl) (hw : swappedStores [.Subscript o i pos'] e X.env = pure none := by rfl) (h1 : (assignEach [.Subscript o i pos'] X.env).map (·.2) = [assign (.Subscript o i pos') X.env] := by rfl)
    (ha : ∀ v, assign (.Subscript o i pos') X.env v = (do
      let ov ← holding [v] (eval o X.env)
      let iv ← holding [v, ov] (eval i X.env)
      standAt pos'
      holding [v, ov, iv] (setItem ov iv v)
      release [v, ov, iv] []) := by intro _; rfl) :
    PSs X (.Assign [.Subscript o i pos'] e pos :: rest) (tS F Γ Δ N T) :=
  (pss_cons (ps_asg he (pg_sub (pe_ex ho) (pe_ex fun b0 => pe_ex fun b1 => hi b0 b1) set_list ha) hs hw h1) (pss_ex hr)).wk fun D σ H ⟨ok, g, e, f⟩ => ⟨ok, g, e, fun b0 u H0 kb0 f0 ok0 hu => ⟨b0, ok0, g, kb0, fun b1 w H1 kb1 f1 ok1 hw => ⟨b0, b1, ok1, g, kb1, fun b2 z H2 kb2 f2 ok2 hz => by
    obtain ⟨m, em, km⟩ := bind_some kb2
    have hw : w = v := hw
    have hz : z = .int (n b0 b1 b2) := hz
    subst hw hz
    obtain ⟨G, ⟨p, vs, eG, ev, hp, zz, pr⟩, nd, turn⟩ := ok2.cell (hj b0 b1 b2)
    refine ⟨p, vs, n b0 b1 b2, m, ev, rfl, hp, by rw [← paired_len pr]; exact em, ((b0, b1), b2), ?_⟩
    have hu2 : (Ee (y b0)).pr H2 u := (Ee (y b0)).mono (f1.fz.trans f2.fz) hu
    have fzm : Fzs H2 (upd H2 p (.lst (vs.set m u))) := Fzs.mut hp fun z => z
    obtain ⟨ok3, f3⟩ := turn (upd H2 p (.lst (vs.set m u))) (oL Ee ((xs b0 b1 b2).set m (y b0))) (fun a o na e => by
      rw [upd_ne fun q => na (by
        show a ∈ G
        have eG : G = [p] := eG
        rw [eG, q]; exact List.mem_singleton.mpr rfl)]
      exact e) ⟨p, vs.set m u, eG, ev, upd_same, by rw [List.length_set]; exact zz, paired_set (P := fun x q => (Ee x).pr (upd H2 p (.lst (vs.set m u))) q) ((Ee _).mono fzm hu2) m (paired_mono (fun x _ => (Ee x).mono fzm) pr)⟩
    have em2 : (ixN (xs b0 b1 b2).length (n b0 b1 b2)).getD 0 = m := by rw [em]; rfl
    show tS F Γ _ N (k ((b0, b1), b2)) D σ _
    rw [em2]
    exact ⟨ok3, g, km, N.mono f (((f0.fz.trans f1.fz).trans f2.fz).trans f3.fz)⟩⟩⟩⟩
end
end
end L3
end
section
set_option Elab.async false
set_option linter.all false
set_option maxRecDepth 100000
set_option maxHeartbeats 4000000
namespace L3
open PySem PySem.Spec PyProof.Rows L2
theorem start_gam {H : Hp} : ∀ {ps : List Pd} {vs : List V} {m : Nat}, Paired (fun p v => Pd.pr p H v) ps vs → ∀ (i : Nat) (p : Pd), (ps.map some ++ List.replicate m none)[i]? = some (some p) → ∃ v, (vs.map some ++ List.replicate m none)[i]? = some (some v) ∧ p.pr H v
  | [], _, m, .nil, i, p, e => by
    have e : (List.replicate m (none : Option Pd))[i]? = some (some p) := e
    rw [List.getElem?_replicate] at e
    split at e <;> cases e
  | _ :: _, _ :: _, m, .cons r t, 0, p, e => by
    have e : some (some _) = some (some p) := e
    cases e
    exact ⟨_, rfl, r⟩
  | _ :: _, _ :: _, m, .cons r t, i + 1, p, e => start_gam t i p e
/-- a def's start: its parameters, the things of its caller's that are handed over -/
theorem ok_start {ps : List Pd} {vs : List V} {N : List Str} {H : Hp} {Δ : List Cel} {n : Nat} (hn : vs.length = n) (h : Paired (fun p v => Pd.pr p H v) ps vs) (hd : ∀ c ∈ Δ, c.d.pr c.G H c.v) (nd : (cellsOf Δ).Nodup) (hp : ∀ (i : Nat) (c : Cel), Δ[i]? = some c → c.prm = some i) :
    Ok ⟨H, Δ.map Cel.G⟩ (ps.map some ++ List.replicate (N.length - n) none) (Δ.map Cel.fg) (L2.start N vs) H := by
  subst hn
  refine ⟨⟨Δ, rfl, fun _ _ e _ => e, hd, nd, fun c hc a ha => .inr ?_, fun m hm a ha => ?_⟩, ?_, fun i p e => start_gam h i p e⟩
  · obtain ⟨i, hi⟩ := List.getElem?_of_mem hc
    exact ⟨i, c.G, hp i c hi, by rw [List.getElem?_map, hi]; rfl, ha⟩
  · obtain ⟨c, hc, e⟩ := List.mem_map.mp hm
    subst e
    obtain ⟨o, e, _⟩ := c.d.cellsN (hd c hc) a ha
    exact ⟨o, e⟩
  · unfold L2.start
    rw [List.length_append, List.length_append, List.length_map, List.length_map, List.length_replicate, List.length_replicate, paired_len h]
section
variable {F : Fm} {Γ : Gm} {Δ : Δs} {σ : SS} {H H' : Hp} {W : Bool}
theorem call_f0 (ok : Ok F Γ Δ σ H) (hk : Hk ⟨H, []⟩ [] H') : Ok F Γ Δ σ H' ∧ St W H H' := by
  obtain ⟨_, _, hk⟩ := hk
  have g : Gr H H' := fun a o e => hk.base a o e fun _ h => nomatch h
  exact ⟨ok.gr g, g.st⟩
theorem call_o0 {v : V} {d : Od} (ok : Ok F Γ Δ σ H) (hk : Hk ⟨H, []⟩ [⟨v, d, none⟩] H') : OkN W F Γ H v d Δ σ H' ∧ St W H H' := by
  obtain ⟨Δ0, e, hk⟩ := hk
  match Δ0, e with
  | [⟨G, _, _, _⟩], e =>
    cases e
    have g : Gr H H' := fun a o e => hk.base a o e fun _ h => nomatch h
    have nw : ∀ a ∈ G, H a = none := fun a ha => by
      rcases hk.own _ (List.mem_singleton.mpr rfl) a ha with z | ⟨i, m, z, _⟩
      · exact z
      · cases z
    exact ⟨ok.add g hk.ndup.1 nw (hk.del _ (List.mem_singleton.mpr rfl)), g.st⟩
/-- the cells of Δ1 are handed to a def, and come back -/
theorem lendO {Δ1 Δ2 : List Cel} (k : HkO F (Δ1 ++ Δ2) H) {Δ1' N : List Cel} (hk : HkO ⟨H, Δ1.map Cel.G⟩ (N ++ Δ1') H') (hl : Δ1'.length = Δ1.length) (hi : ∀ (i : Nat) (c : Cel), Δ1'[i]? = some c → c.prm = some i) (hN : ∀ c ∈ N, c.prm = none) {Δ1o : List Cel} (ho : Δ1o.length = Δ1.length) (hoe : ∀ (i : Nat) (c c' e : Cel), Δ1[i]? = some c → Δ1'[i]? = some c' → Δ1o[i]? = some e → e = ⟨c'.G, c'.v, c'.d, c.prm⟩) :
    HkO F (N ++ Δ1o ++ Δ2) H' ∧ St true H H' ∧ ∀ c ∈ N, ∀ a ∈ c.G, H a = none := by
  have hG : ∀ a, a ∈ cellsOf Δ1 ↔ ∃ m ∈ Δ1.map Cel.G, a ∈ m := fun a => by
    unfold cellsOf
    rw [List.mem_flatMap]
    constructor
    · rintro ⟨c, hc, ha⟩; exact ⟨c.G, List.mem_map.mpr ⟨c, hc, rfl⟩, ha⟩
    · rintro ⟨m, hm, ha⟩
      obtain ⟨c, hc, e⟩ := List.mem_map.mp hm
      subst e
      exact ⟨c, hc, ha⟩
  have kp : ∀ a o, a ∉ cellsOf Δ1 → H a = some o → H' a = some o := fun a o n e => hk.base a o e fun m hm ha => n ((hG a).mpr ⟨m, hm, ha⟩)
  have k1 : HkO F Δ1 H := k.less (List.sublist_append_left _ _)
  have k2 : HkO F Δ2 H := k.less (List.sublist_append_right _ _)
  have fz : Fzs H H' := fun a o p e => kp a o (fun ha => by
    obtain ⟨u, eu, nu⟩ := k1.isC ha
    rw [e] at eu; cases eu; exact nu p) e
  have dom : ∀ a o, H a = some o → ∃ u, H' a = some u := fun a o e => by
    by_cases ha : a ∈ cellsOf Δ1
    · obtain ⟨m, hm, ha⟩ := (hG a).mp ha
      exact hk.mem m hm a ha
    · exact ⟨o, kp a o ha e⟩
  have nd := k.nod
  rw [cellsOf_app] at nd
  obtain ⟨nd1, nd2, nd3⟩ := List.nodup_append.mp nd
  -- what a cell of the def's end owns
  have ownN : ∀ c ∈ N, ∀ a ∈ c.G, H a = none := fun c hc a ha => by
    rcases hk.own c (List.mem_append_left _ hc) a ha with z | ⟨i, m, z, _⟩
    · exact z
    · rw [hN c hc] at z; cases z
  have own1 : ∀ (i : Nat) (c' : Cel), Δ1'[i]? = some c' → ∀ a ∈ c'.G, H a = none ∨ ∃ c, Δ1[i]? = some c ∧ a ∈ c.G := fun i c' h a ha => by
    rcases hk.own c' (List.mem_append_right _ (List.mem_of_getElem? h)) a ha with z | ⟨q, m, z, hm, hin⟩
    · exact .inl z
    · rw [hi i c' h] at z
      cases z
      have hm : (Δ1.map Cel.G)[i]? = some m := hm
      rw [List.getElem?_map] at hm
      cases e : Δ1[i]? with
      | none => rw [e] at hm; cases hm
      | some c =>
        rw [e] at hm
        cases hm
        exact .inr ⟨c, rfl, hin⟩
  have cof : ∀ (i : Nat) (e : Cel), Δ1o[i]? = some e → ∃ c c', Δ1[i]? = some c ∧ Δ1'[i]? = some c' ∧ e = ⟨c'.G, c'.v, c'.d, c.prm⟩ := fun i e h => by
    have hl1 : i < Δ1o.length := by
      by_cases x : i < Δ1o.length
      · exact x
      · rw [List.getElem?_eq_none (by omega)] at h; cases h
    have e1 := List.getElem?_eq_getElem (l := Δ1) (i := i) (by omega)
    have e2 := List.getElem?_eq_getElem (l := Δ1') (i := i) (by omega)
    exact ⟨_, _, e1, e2, hoe i _ _ e e1 e2 h⟩
  have eqG : Δ1o.map Cel.G = Δ1'.map Cel.G := by
    apply List.ext_getElem?
    intro i
    rw [List.getElem?_map, List.getElem?_map]
    by_cases hl1 : i < Δ1o.length
    · obtain ⟨c, c', _, e2, e3⟩ := cof i _ (List.getElem?_eq_getElem hl1)
      rw [List.getElem?_eq_getElem hl1, e2, e3]
      rfl
    · rw [List.getElem?_eq_none (by omega), List.getElem?_eq_none (by omega)]
  have eqC : cellsOf Δ1o = cellsOf Δ1' := by
    unfold cellsOf
    rw [List.flatMap_def, List.flatMap_def, eqG]
  refine ⟨⟨fun a o e m => kp a o (fun ha => ?_) (k.base a o e m), fun c hc => ?_, ?_, fun c hc a ha => ?_, fun m hm a ha => ?_⟩, ⟨fz, (fun h => nomatch h), dom⟩, ownN⟩
  · obtain ⟨c, hc, ha⟩ := List.mem_flatMap.mp ha
    rcases k1.own c hc a ha with z | ⟨i, w, _, hw, z⟩
    · rw [e] at z; cases z
    · exact m w (List.mem_of_getElem? hw) z
  · rcases List.mem_append.mp hc with hc | hc
    · rcases List.mem_append.mp hc with hc | hc
      · exact hk.del c (List.mem_append_left _ hc)
      · obtain ⟨i, h⟩ := List.getElem?_of_mem hc
        obtain ⟨d, d', _, e2, e3⟩ := cof i c h
        subst e3
        exact hk.del d' (List.mem_append_right _ (List.mem_of_getElem? e2))
    · exact c.d.frame (k2.del c hc) (fun a ha o q => kp a o (fun h1 => nd3 a h1 a (mem_cellsOf hc ha) rfl) q) fz
  · rw [cellsOf_app, cellsOf_app, eqC, ← cellsOf_app]
    refine List.nodup_append.mpr ⟨hk.nod, nd2, fun a ha b hb e => ?_⟩
    subst e
    obtain ⟨o2, e2, _⟩ := k2.isC hb
    rw [cellsOf_app] at ha
    rcases List.mem_append.mp ha with ha | ha
    · obtain ⟨c, hc, ha⟩ := List.mem_flatMap.mp ha
      rw [ownN c hc a ha] at e2; cases e2
    · obtain ⟨c', hc, ha⟩ := List.mem_flatMap.mp ha
      obtain ⟨i, h⟩ := List.getElem?_of_mem hc
      rcases own1 i c' h a ha with z | ⟨c, e1, z⟩
      · rw [z] at e2; cases e2
      · exact nd3 a (mem_cellsOf (List.mem_of_getElem? e1) z) a hb rfl
  · rcases List.mem_append.mp hc with hc | hc
    · rcases List.mem_append.mp hc with hc | hc
      · exact .inl (k.fresh0 (ownN c hc a ha))
      · obtain ⟨i, h⟩ := List.getElem?_of_mem hc
        obtain ⟨d, d', e1, e2, e3⟩ := cof i c h
        subst e3
        rcases own1 i d' e2 a ha with z | ⟨c, e4, z⟩
        · exact .inl (k.fresh0 z)
        · rw [e1] at e4
          cases e4
          exact k1.own d (List.mem_of_getElem? e1) a z
    · exact k2.own c hc a ha
  · obtain ⟨o, e⟩ := k.mem m hm a ha
    exact dom a o e
theorem map_one {Δ1 : List Cel} {c : Cell} (e : Δ1.map Cel.fg = [c]) : ∃ G, Δ1 = [⟨G, c.v, c.d, c.prm⟩] := by
  cases Δ1 with
  | nil => cases e
  | cons y r =>
    cases r with
    | cons _ _ => cases e
    | nil => cases e; exact ⟨y.G, rfl⟩
theorem map_two {Δ1 : List Cel} {c d : Cell} (e : Δ1.map Cel.fg = [c, d]) : ∃ G G2, Δ1 = [⟨G, c.v, c.d, c.prm⟩, ⟨G2, d.v, d.d, d.prm⟩] := by
  cases Δ1 with
  | nil => cases e
  | cons y r =>
    cases r with
    | nil => cases e
    | cons z r =>
      cases r with
      | cons _ _ => cases e
      | nil => cases e; exact ⟨y.G, z.G, rfl⟩
/-- one cell is handed to a def -/
theorem Ok.lend1 {j : Nat} {c : Cell} (ok : Ok F Γ Δ σ H) (hj : Δ[j]? = some c) : ∃ G, c.d.pr G H c.v ∧ G.Nodup ∧ (∀ H' d', Hk ⟨H, [G]⟩ [⟨c.v, d', some 0⟩] H' → Ok F Γ (Δ.set j { c with d := d' }) σ H' ∧ St true H H') ∧
    ∀ H' d' v2 d2, Hk ⟨H, [G]⟩ [⟨v2, d2, none⟩, ⟨c.v, d', some 0⟩] H' → OkN true F Γ H v2 d2 (Δ.set j { c with d := d' }) σ H' ∧ St true H H' := by
  obtain ⟨⟨Δ0, e, k⟩, n⟩ := ok
  subst e
  obtain ⟨A, x, B, e0, el, ex⟩ := map_at hj
  subst e0
  subst ex
  have k1 : HkO F ([x] ++ (A ++ B)) H := k.perm mid_perm
  have nd := (k.perm mid_perm).ndup.1
  refine ⟨x.G, k1.del x List.mem_cons_self, nd, fun H' d' hk => ?_, fun H' d' v2 d2 hk => ?_⟩
  · obtain ⟨Δ1, e1, hk⟩ := hk
    obtain ⟨yG, e2⟩ := map_one e1
    subst e2
    ·
      obtain ⟨r, st, _⟩ := lendO (Δ1 := [x]) (N := []) (Δ1' := [⟨yG, x.v, d', some 0⟩]) (Δ1o := [⟨yG, x.v, d', x.prm⟩]) k1 hk rfl (fun i c h => by
        match i, h with
        | 0, h => cases h; rfl
        | _ + 1, h => cases h) (fun _ h => nomatch h) rfl (fun i c c' e h1 h2 h3 => by
        match i, h1, h2, h3 with
        | 0, h1, h2, h3 => cases h1; cases h2; cases h3; rfl
        | _ + 1, h1, _, _ => cases h1)
      refine ⟨⟨⟨A ++ ⟨yG, x.v, d', x.prm⟩ :: B, ?_, HkO.perm (Δ := ⟨yG, x.v, d', x.prm⟩ :: (A ++ B)) r mid_perm.symm⟩, n.mono st.fz⟩, st⟩
      rw [← el]
      exact map_set
  · obtain ⟨Δ1, e1, hk⟩ := hk
    obtain ⟨zG, yG, e2⟩ := map_two e1
    subst e2
    ·
      obtain ⟨r, st, nw⟩ := lendO (Δ1 := [x]) (N := [⟨zG, v2, d2, none⟩]) (Δ1' := [⟨yG, x.v, d', some 0⟩]) (Δ1o := [⟨yG, x.v, d', x.prm⟩]) k1 hk rfl (fun i c h => by
        match i, h with
        | 0, h => cases h; rfl
        | _ + 1, h => cases h) (fun c h => by rw [List.mem_singleton.mp h]) rfl (fun i c c' e h1 h2 h3 => by
        match i, h1, h2, h3 with
        | 0, h1, h2, h3 => cases h1; cases h2; cases h3; rfl
        | _ + 1, h1, _, _ => cases h1)
      refine ⟨⟨A ++ ⟨yG, x.v, d', x.prm⟩ :: B, zG, ?_, HkO.perm (Δ := ⟨zG, v2, d2, none⟩ :: ⟨yG, x.v, d', x.prm⟩ :: (A ++ B)) r (List.Perm.cons _ mid_perm.symm), (fun h => nomatch h), n.mono st.fz⟩, st⟩
      rw [← el]
      exact map_set
end
end L3
end
section
set_option Elab.async false
set_option linter.all false
set_option maxRecDepth 100000
set_option maxHeartbeats 4000000
namespace L3
open PySem PySem.Spec PyProof.Rows L2
def Sp_FFFF_f {α1 α2 α3 α4 ρ : Type} (E1 : α1 → Pd) (E2 : α2 → Pd) (E3 : α3 → Pd) (E4 : α4 → Pd) (Mf : α1 → α2 → α3 → α4 → Option (ρ)) (Rp : ρ → Pd) : Sp := fun vs H Q _ => ∃ (v1 v2 v3 v4 : V)  (a1 : α1) (a2 : α2) (a3 : α3) (a4 : α4), vs = [v1, v2, v3, v4] ∧ (E1 a1).pr H v1 ∧ (E2 a2).pr H v2 ∧ (E3 a3).pr H v3 ∧ (E4 a4).pr H v4 ∧ ∃ r, Mf a1 a2 a3 a4 = some r ∧ RF ⟨H, []⟩ (fun _ => []) (Rp) r Q
theorem fn_FFFF_f {P : Program} {w : World} {K : PySem.W.Frag} {mg : Str → Option Value} {base : Heap} {x qual : Str} {params : Arguments} {body : List Stmt} {scope : Scope} {dvs : List V} {kws : List (Str × V)} {f : Addr} {fd : FuncData} {N ps : List Str} {k : Nat} {α1 α2 α3 α4 ρ : Type} {E1 : α1 → Pd} {E2 : α2 → Pd} {E3 : α3 → Pd} {E4 : α4 → Pd} {Mf : α1 → α2 → α3 → α4 → Option (ρ)} {Rp : ρ → Pd}
    (FD : FunD K x qual params body scope dvs kws f fd) (S : FnScope N ps scope) (hl : 4 = ps.length)
    (hb : ∀ (cdv : Value) (A : Around) (outer : List Env) (s : Shared) (H : Hp) (E : XK) (hr : Room k (A.deeper (envOfC qual scope s.heap.objs.size f cdv)))  (a1 : α1) (a2 : α2) (a3 : α3) (a4 : α4), PSs (cxOf CX0 P w K mg base N qual scope f cdv A outer s H E).nox body
      (tS ⟨H, []⟩ (([E1 a1, E2 a2, E3 a3, E4 a4] : List Pd).map some ++ List.replicate (N.length - 4) none) [] (fF (RF ⟨H, []⟩ (fun _ => []) (Rp))) (Mf a1 a2 a3 a4))) : FnOk P w K mg base CX0 (k + 1) f fd ps (Sp_FFFF_f E1 E2 E3 E4 Mf Rp) := by
  refine FD.ok S (fun vs H Q E h => ?_) (fun cdv A outer s H vs Q E hr h => ?_)
  · obtain ⟨v1, v2, v3, v4, a1, a2, a3, a4, rfl, _⟩ := h
    exact hl
  · obtain ⟨v1, v2, v3, v4, a1, a2, a3, a4, rfl, p1, p2, p3, p4, r, hM, fin⟩ := h
    refine ⟨_, PSs.nox (hb cdv A outer s H E hr  a1 a2 a3 a4), ok_start (Δ := []) rfl (.cons p1 (.cons p2 (.cons p3 (.cons p4 (.nil))))) ?_ ?_ ?_, r, hM, fin⟩
    · exact fun _ h => nomatch h
    · exact List.nodup_nil
    · exact fun _ _ h => nomatch h
theorem x_FFFF_f {X : Cx} {W : Bool} {F : Fm} {Γ : Gm} {Δ : Δs} {γ : Type} {x : Str} {p pos : Pos} {e1 e2 e3 e4 : Expr} {f : Addr} {fd : FuncData} {ps : List Str} {kk : Nat} {α1 α2 α3 α4 ρ β1 β2 β3 β4 : Type} {E1 : α1 → Pd} {E2 : α2 → Pd} {E3 : α3 → Pd} {E4 : α4 → Pd} {Mf : α1 → α2 → α3 → α4 → Option (ρ)} {Rp : ρ → Pd} {T : Option γ} {Δ1 : β1 → Δs} {x1 : β1 → α1} {k1 : β1 → Option γ} {Δ2 : β1 → β2 → Δs} {x2 : β1 → β2 → α2} {k2 : β1 → β2 → Option γ} {Δ3 : β1 → β2 → β3 → Δs} {x3 : β1 → β2 → β3 → α3} {k3 : β1 → β2 → β3 → Option γ} {Δ4 : β1 → β2 → β3 → β4 → Δs} {x4 : β1 → β2 → β3 → β4 → α4} {k : (β1 × β2 × β3 × β4) × (ρ) → Option γ}
    (G : FnOk X.prog X.w X.K X.mg X.base CX0 kk f fd ps (Sp_FFFF_f E1 E2 E3 E4 Mf Rp)) (hr : Room kk X.A) (hm : X.mg x = some (.ref f)) (hk : PySem.W.keepIn X.K (.ref f) = true) (hb : Binds X.K fd ps []) (h1 : PE X e1 (tE W F Γ Δ T (k1) (fun b1 => E1 (x1 b1)) (Δ1))) (h2 : ∀ b1, PE X e2 (tE W F Γ (Δ1 b1) (k1 b1) (k2 b1) (fun b2 => E2 (x2 b1 b2)) (Δ2 b1))) (h3 : ∀ b1 b2, PE X e3 (tE W F Γ (Δ2 b1 b2) (k2 b1 b2) (k3 b1 b2) (fun b3 => E3 (x3 b1 b2 b3)) (Δ3 b1 b2))) (h4 : ∀ b1 b2 b3, PE X e4 (tE W F Γ (Δ3 b1 b2 b3) (k3 b1 b2 b3) (fun b4 => (Mf (x1 b1) (x2 b1 b2) (x3 b1 b2 b3) (x4 b1 b2 b3 b4)).bind fun r => k ((b1, b2, b3, b4), r)) (fun b4 => E4 (x4 b1 b2 b3 b4)) (Δ4 b1 b2 b3)))
     (hg : Gl X x := by rfl) (hdb : (x == ("__debug__" : Str)) = false := by decide) (st1 : starEach [e1, e2, e3, e4] X.env = (false, eval e1 X.env) :: starEach [e2, e3, e4] X.env := by rfl) (st2 : starEach [e2, e3, e4] X.env = (false, eval e2 X.env) :: starEach [e3, e4] X.env := by rfl) (st3 : starEach [e3, e4] X.env = (false, eval e3 X.env) :: starEach [e4] X.env := by rfl) (st4 : starEach [e4] X.env = (false, eval e4 X.env) :: starEach [] X.env := by rfl) (hpl : (backTo pos (starEach [e2, e3, e4] X.env)).any (·.1) = false := by rfl) :
    PE X (.Call (.Name x p) [e1, e2, e3, e4] [] pos) (tE W F Γ Δ T k (fun b => Rp b.2) fun b => Δ4 b.1.1 b.1.2.1 b.1.2.2.1 b.1.2.2.2) :=
  (pe_call G hr hg hm hk hb .nil pass0 (pa_cons h1 (pa_cons (pe_ex fun b1 => h2 b1) (pa_cons (pe_ex fun b1 => pe_ex fun b2 => h3 b1 b2) (pa_cons (pe_ex fun b1 => pe_ex fun b2 => pe_ex fun b3 => h4 b1 b2 b3) pa_nil st4) st3) st2) st1) hdb st1 hpl).wk fun σ H Q ⟨ok, g, e, q⟩ => ⟨ok, g, e, fun b1 v1 H1 kb1 f1 ok1 hv1 => ⟨b1, ok1, g, kb1, fun b2 v2 H2 kb2 f2 ok2 hv2 => ⟨b1, b2, ok2, g, kb2, fun b3 v3 H3 kb3 f3 ok3 hv3 => ⟨b1, b2, b3, ok3, g, kb3, fun b4 v4 H4 kb4 f4 ok4 hv4 => by
    obtain ⟨r, er, kr⟩ := bind_some kb4
    refine ⟨v1, v2, v3, v4, x1 b1, x2 b1 b2, x3 b1 b2 b3, x4 b1 b2 b3 b4, rfl, ((E1 _).mono ((f2.fz.trans f3.fz).trans f4.fz) hv1), ((E2 _).mono (f3.fz.trans f4.fz) hv2), ((E3 _).mono f4.fz hv3), hv4, r, er, fun v H' hk hv => ?_⟩
    obtain ⟨ok', st⟩ := call_f0 (W := W) ok4 hk
    exact q ((b1, b2, b3, b4), r) v H' kr ((((f1.trans f2).trans f3).trans f4).trans st) ok' hv⟩⟩⟩⟩
def Sp_FFFF_o {α1 α2 α3 α4 ρ : Type} (E1 : α1 → Pd) (E2 : α2 → Pd) (E3 : α3 → Pd) (E4 : α4 → Pd) (Mf : α1 → α2 → α3 → α4 → Option (ρ)) (Rp : ρ → Od) : Sp := fun vs H Q _ => ∃ (v1 v2 v3 v4 : V)  (a1 : α1) (a2 : α2) (a3 : α3) (a4 : α4), vs = [v1, v2, v3, v4] ∧ (E1 a1).pr H v1 ∧ (E2 a2).pr H v2 ∧ (E3 a3).pr H v3 ∧ (E4 a4).pr H v4 ∧ ∃ r, Mf a1 a2 a3 a4 = some r ∧ RO ⟨H, []⟩ (fun _ => []) (Rp) r Q
theorem fn_FFFF_o {P : Program} {w : World} {K : PySem.W.Frag} {mg : Str → Option Value} {base : Heap} {x qual : Str} {params : Arguments} {body : List Stmt} {scope : Scope} {dvs : List V} {kws : List (Str × V)} {f : Addr} {fd : FuncData} {N ps : List Str} {k : Nat} {α1 α2 α3 α4 ρ : Type} {E1 : α1 → Pd} {E2 : α2 → Pd} {E3 : α3 → Pd} {E4 : α4 → Pd} {Mf : α1 → α2 → α3 → α4 → Option (ρ)} {Rp : ρ → Od}
    (FD : FunD K x qual params body scope dvs kws f fd) (S : FnScope N ps scope) (hl : 4 = ps.length)
    (hb : ∀ (cdv : Value) (A : Around) (outer : List Env) (s : Shared) (H : Hp) (E : XK) (hr : Room k (A.deeper (envOfC qual scope s.heap.objs.size f cdv)))  (a1 : α1) (a2 : α2) (a3 : α3) (a4 : α4), PSs (cxOf CX0 P w K mg base N qual scope f cdv A outer s H E).nox body
      (tS ⟨H, []⟩ (([E1 a1, E2 a2, E3 a3, E4 a4] : List Pd).map some ++ List.replicate (N.length - 4) none) [] (fF (RO ⟨H, []⟩ (fun _ => []) (Rp))) (Mf a1 a2 a3 a4))) : FnOk P w K mg base CX0 (k + 1) f fd ps (Sp_FFFF_o E1 E2 E3 E4 Mf Rp) := by
  refine FD.ok S (fun vs H Q E h => ?_) (fun cdv A outer s H vs Q E hr h => ?_)
  · obtain ⟨v1, v2, v3, v4, a1, a2, a3, a4, rfl, _⟩ := h
    exact hl
  · obtain ⟨v1, v2, v3, v4, a1, a2, a3, a4, rfl, p1, p2, p3, p4, r, hM, fin⟩ := h
    refine ⟨_, PSs.nox (hb cdv A outer s H E hr  a1 a2 a3 a4), ok_start (Δ := []) rfl (.cons p1 (.cons p2 (.cons p3 (.cons p4 (.nil))))) ?_ ?_ ?_, r, hM, fin⟩
    · exact fun _ h => nomatch h
    · exact List.nodup_nil
    · exact fun _ _ h => nomatch h
theorem x_FFFF_o {X : Cx} {W : Bool} {F : Fm} {Γ : Gm} {Δ : Δs} {γ : Type} {x : Str} {p pos : Pos} {e1 e2 e3 e4 : Expr} {f : Addr} {fd : FuncData} {ps : List Str} {kk : Nat} {α1 α2 α3 α4 ρ β1 β2 β3 β4 : Type} {E1 : α1 → Pd} {E2 : α2 → Pd} {E3 : α3 → Pd} {E4 : α4 → Pd} {Mf : α1 → α2 → α3 → α4 → Option (ρ)} {Rp : ρ → Od} {T : Option γ} {Δ1 : β1 → Δs} {x1 : β1 → α1} {k1 : β1 → Option γ} {Δ2 : β1 → β2 → Δs} {x2 : β1 → β2 → α2} {k2 : β1 → β2 → Option γ} {Δ3 : β1 → β2 → β3 → Δs} {x3 : β1 → β2 → β3 → α3} {k3 : β1 → β2 → β3 → Option γ} {Δ4 : β1 → β2 → β3 → β4 → Δs} {x4 : β1 → β2 → β3 → β4 → α4} {k : (β1 × β2 × β3 × β4) × (ρ) → Option γ}
    (G : FnOk X.prog X.w X.K X.mg X.base CX0 kk f fd ps (Sp_FFFF_o E1 E2 E3 E4 Mf Rp)) (hr : Room kk X.A) (hm : X.mg x = some (.ref f)) (hk : PySem.W.keepIn X.K (.ref f) = true) (hb : Binds X.K fd ps []) (h1 : PE X e1 (tE W F Γ Δ T (k1) (fun b1 => E1 (x1 b1)) (Δ1))) (h2 : ∀ b1, PE X e2 (tE W F Γ (Δ1 b1) (k1 b1) (k2 b1) (fun b2 => E2 (x2 b1 b2)) (Δ2 b1))) (h3 : ∀ b1 b2, PE X e3 (tE W F Γ (Δ2 b1 b2) (k2 b1 b2) (k3 b1 b2) (fun b3 => E3 (x3 b1 b2 b3)) (Δ3 b1 b2))) (h4 : ∀ b1 b2 b3, PE X e4 (tE W F Γ (Δ3 b1 b2 b3) (k3 b1 b2 b3) (fun b4 => (Mf (x1 b1) (x2 b1 b2) (x3 b1 b2 b3) (x4 b1 b2 b3 b4)).bind fun r => k ((b1, b2, b3, b4), r)) (fun b4 => E4 (x4 b1 b2 b3 b4)) (Δ4 b1 b2 b3)))
     (hg : Gl X x := by rfl) (hdb : (x == ("__debug__" : Str)) = false := by decide) (st1 : starEach [e1, e2, e3, e4] X.env = (false, eval e1 X.env) :: starEach [e2, e3, e4] X.env := by rfl) (st2 : starEach [e2, e3, e4] X.env = (false, eval e2 X.env) :: starEach [e3, e4] X.env := by rfl) (st3 : starEach [e3, e4] X.env = (false, eval e3 X.env) :: starEach [e4] X.env := by rfl) (st4 : starEach [e4] X.env = (false, eval e4 X.env) :: starEach [] X.env := by rfl) (hpl : (backTo pos (starEach [e2, e3, e4] X.env)).any (·.1) = false := by rfl) :
    PE X (.Call (.Name x p) [e1, e2, e3, e4] [] pos) (tO W F Γ Δ T k (fun b => Rp b.2) fun b => Δ4 b.1.1 b.1.2.1 b.1.2.2.1 b.1.2.2.2) :=
  (pe_call G hr hg hm hk hb .nil pass0 (pa_cons h1 (pa_cons (pe_ex fun b1 => h2 b1) (pa_cons (pe_ex fun b1 => pe_ex fun b2 => h3 b1 b2) (pa_cons (pe_ex fun b1 => pe_ex fun b2 => pe_ex fun b3 => h4 b1 b2 b3) pa_nil st4) st3) st2) st1) hdb st1 hpl).wk fun σ H Q ⟨ok, g, e, q⟩ => ⟨ok, g, e, fun b1 v1 H1 kb1 f1 ok1 hv1 => ⟨b1, ok1, g, kb1, fun b2 v2 H2 kb2 f2 ok2 hv2 => ⟨b1, b2, ok2, g, kb2, fun b3 v3 H3 kb3 f3 ok3 hv3 => ⟨b1, b2, b3, ok3, g, kb3, fun b4 v4 H4 kb4 f4 ok4 hv4 => by
    obtain ⟨r, er, kr⟩ := bind_some kb4
    refine ⟨v1, v2, v3, v4, x1 b1, x2 b1 b2, x3 b1 b2 b3, x4 b1 b2 b3 b4, rfl, ((E1 _).mono ((f2.fz.trans f3.fz).trans f4.fz) hv1), ((E2 _).mono (f3.fz.trans f4.fz) hv2), ((E3 _).mono f4.fz hv3), hv4, r, er, fun v H' hk => ?_⟩
    obtain ⟨ok', st⟩ := call_o0 (W := W) ok4 hk
    exact q ((b1, b2, b3, b4), r) v H' kr ((((f1.trans f2).trans f3).trans f4).trans st) (ok'.since (((f1.trans f2).trans f3).trans f4))⟩⟩⟩⟩
def Sp_FFF_f {α1 α2 α3 ρ : Type} (E1 : α1 → Pd) (E2 : α2 → Pd) (E3 : α3 → Pd) (Mf : α1 → α2 → α3 → Option (ρ)) (Rp : ρ → Pd) : Sp := fun vs H Q _ => ∃ (v1 v2 v3 : V)  (a1 : α1) (a2 : α2) (a3 : α3), vs = [v1, v2, v3] ∧ (E1 a1).pr H v1 ∧ (E2 a2).pr H v2 ∧ (E3 a3).pr H v3 ∧ ∃ r, Mf a1 a2 a3 = some r ∧ RF ⟨H, []⟩ (fun _ => []) (Rp) r Q
theorem fn_FFF_f {P : Program} {w : World} {K : PySem.W.Frag} {mg : Str → Option Value} {base : Heap} {x qual : Str} {params : Arguments} {body : List Stmt} {scope : Scope} {dvs : List V} {kws : List (Str × V)} {f : Addr} {fd : FuncData} {N ps : List Str} {k : Nat} {α1 α2 α3 ρ : Type} {E1 : α1 → Pd} {E2 : α2 → Pd} {E3 : α3 → Pd} {Mf : α1 → α2 → α3 → Option (ρ)} {Rp : ρ → Pd}
    (FD : FunD K x qual params body scope dvs kws f fd) (S : FnScope N ps scope) (hl : 3 = ps.length)
    (hb : ∀ (cdv : Value) (A : Around) (outer : List Env) (s : Shared) (H : Hp) (E : XK) (hr : Room k (A.deeper (envOfC qual scope s.heap.objs.size f cdv)))  (a1 : α1) (a2 : α2) (a3 : α3), PSs (cxOf CX0 P w K mg base N qual scope f cdv A outer s H E).nox body
      (tS ⟨H, []⟩ (([E1 a1, E2 a2, E3 a3] : List Pd).map some ++ List.replicate (N.length - 3) none) [] (fF (RF ⟨H, []⟩ (fun _ => []) (Rp))) (Mf a1 a2 a3))) : FnOk P w K mg base CX0 (k + 1) f fd ps (Sp_FFF_f E1 E2 E3 Mf Rp) := by
  refine FD.ok S (fun vs H Q E h => ?_) (fun cdv A outer s H vs Q E hr h => ?_)
  · obtain ⟨v1, v2, v3, a1, a2, a3, rfl, _⟩ := h
    exact hl
  · obtain ⟨v1, v2, v3, a1, a2, a3, rfl, p1, p2, p3, r, hM, fin⟩ := h
    refine ⟨_, PSs.nox (hb cdv A outer s H E hr  a1 a2 a3), ok_start (Δ := []) rfl (.cons p1 (.cons p2 (.cons p3 (.nil)))) ?_ ?_ ?_, r, hM, fin⟩
    · exact fun _ h => nomatch h
    · exact List.nodup_nil
    · exact fun _ _ h => nomatch h
theorem x_FFF_f {X : Cx} {W : Bool} {F : Fm} {Γ : Gm} {Δ : Δs} {γ : Type} {x : Str} {p pos : Pos} {e1 e2 e3 : Expr} {f : Addr} {fd : FuncData} {ps : List Str} {kk : Nat} {α1 α2 α3 ρ β1 β2 β3 : Type} {E1 : α1 → Pd} {E2 : α2 → Pd} {E3 : α3 → Pd} {Mf : α1 → α2 → α3 → Option (ρ)} {Rp : ρ → Pd} {T : Option γ} {Δ1 : β1 → Δs} {x1 : β1 → α1} {k1 : β1 → Option γ} {Δ2 : β1 → β2 → Δs} {x2 : β1 → β2 → α2} {k2 : β1 → β2 → Option γ} {Δ3 : β1 → β2 → β3 → Δs} {x3 : β1 → β2 → β3 → α3} {k : (β1 × β2 × β3) × (ρ) → Option γ}
    (G : FnOk X.prog X.w X.K X.mg X.base CX0 kk f fd ps (Sp_FFF_f E1 E2 E3 Mf Rp)) (hr : Room kk X.A) (hm : X.mg x = some (.ref f)) (hk : PySem.W.keepIn X.K (.ref f) = true) (hb : Binds X.K fd ps []) (h1 : PE X e1 (tE W F Γ Δ T (k1) (fun b1 => E1 (x1 b1)) (Δ1))) (h2 : ∀ b1, PE X e2 (tE W F Γ (Δ1 b1) (k1 b1) (k2 b1) (fun b2 => E2 (x2 b1 b2)) (Δ2 b1))) (h3 : ∀ b1 b2, PE X e3 (tE W F Γ (Δ2 b1 b2) (k2 b1 b2) (fun b3 => (Mf (x1 b1) (x2 b1 b2) (x3 b1 b2 b3)).bind fun r => k ((b1, b2, b3), r)) (fun b3 => E3 (x3 b1 b2 b3)) (Δ3 b1 b2)))
     (hg : Gl X x := by rfl) (hdb : (x == ("__debug__" : Str)) = false := by decide) (st1 : starEach [e1, e2, e3] X.env = (false, eval e1 X.env) :: starEach [e2, e3] X.env := by rfl) (st2 : starEach [e2, e3] X.env = (false, eval e2 X.env) :: starEach [e3] X.env := by rfl) (st3 : starEach [e3] X.env = (false, eval e3 X.env) :: starEach [] X.env := by rfl) (hpl : (backTo pos (starEach [e2, e3] X.env)).any (·.1) = false := by rfl) :
    PE X (.Call (.Name x p) [e1, e2, e3] [] pos) (tE W F Γ Δ T k (fun b => Rp b.2) fun b => Δ3 b.1.1 b.1.2.1 b.1.2.2) :=
  (pe_call G hr hg hm hk hb .nil pass0 (pa_cons h1 (pa_cons (pe_ex fun b1 => h2 b1) (pa_cons (pe_ex fun b1 => pe_ex fun b2 => h3 b1 b2) pa_nil st3) st2) st1) hdb st1 hpl).wk fun σ H Q ⟨ok, g, e, q⟩ => ⟨ok, g, e, fun b1 v1 H1 kb1 f1 ok1 hv1 => ⟨b1, ok1, g, kb1, fun b2 v2 H2 kb2 f2 ok2 hv2 => ⟨b1, b2, ok2, g, kb2, fun b3 v3 H3 kb3 f3 ok3 hv3 => by
    obtain ⟨r, er, kr⟩ := bind_some kb3
    refine ⟨v1, v2, v3, x1 b1, x2 b1 b2, x3 b1 b2 b3, rfl, ((E1 _).mono (f2.fz.trans f3.fz) hv1), ((E2 _).mono f3.fz hv2), hv3, r, er, fun v H' hk hv => ?_⟩
    obtain ⟨ok', st⟩ := call_f0 (W := W) ok3 hk
    exact q ((b1, b2, b3), r) v H' kr (((f1.trans f2).trans f3).trans st) ok' hv⟩⟩⟩
def Sp_FFF_o {α1 α2 α3 ρ : Type} (E1 : α1 → Pd) (E2 : α2 → Pd) (E3 : α3 → Pd) (Mf : α1 → α2 → α3 → Option (ρ)) (Rp : ρ → Od) : Sp := fun vs H Q _ => ∃ (v1 v2 v3 : V)  (a1 : α1) (a2 : α2) (a3 : α3), vs = [v1, v2, v3] ∧ (E1 a1).pr H v1 ∧ (E2 a2).pr H v2 ∧ (E3 a3).pr H v3 ∧ ∃ r, Mf a1 a2 a3 = some r ∧ RO ⟨H, []⟩ (fun _ => []) (Rp) r Q
theorem fn_FFF_o {P : Program} {w : World} {K : PySem.W.Frag} {mg : Str → Option Value} {base : Heap} {x qual : Str} {params : Arguments} {body : List Stmt} {scope : Scope} {dvs : List V} {kws : List (Str × V)} {f : Addr} {fd : FuncData} {N ps : List Str} {k : Nat} {α1 α2 α3 ρ : Type} {E1 : α1 → Pd} {E2 : α2 → Pd} {E3 : α3 → Pd} {Mf : α1 → α2 → α3 → Option (ρ)} {Rp : ρ → Od}
    (FD : FunD K x qual params body scope dvs kws f fd) (S : FnScope N ps scope) (hl : 3 = ps.length)
    (hb : ∀ (cdv : Value) (A : Around) (outer : List Env) (s : Shared) (H : Hp) (E : XK) (hr : Room k (A.deeper (envOfC qual scope s.heap.objs.size f cdv)))  (a1 : α1) (a2 : α2) (a3 : α3), PSs (cxOf CX0 P w K mg base N qual scope f cdv A outer s H E).nox body
      (tS ⟨H, []⟩ (([E1 a1, E2 a2, E3 a3] : List Pd).map some ++ List.replicate (N.length - 3) none) [] (fF (RO ⟨H, []⟩ (fun _ => []) (Rp))) (Mf a1 a2 a3))) : FnOk P w K mg base CX0 (k + 1) f fd ps (Sp_FFF_o E1 E2 E3 Mf Rp) := by
  refine FD.ok S (fun vs H Q E h => ?_) (fun cdv A outer s H vs Q E hr h => ?_)
  · obtain ⟨v1, v2, v3, a1, a2, a3, rfl, _⟩ := h
    exact hl
  · obtain ⟨v1, v2, v3, a1, a2, a3, rfl, p1, p2, p3, r, hM, fin⟩ := h
    refine ⟨_, PSs.nox (hb cdv A outer s H E hr  a1 a2 a3), ok_start (Δ := []) rfl (.cons p1 (.cons p2 (.cons p3 (.nil)))) ?_ ?_ ?_, r, hM, fin⟩
    · exact fun _ h => nomatch h
    · exact List.nodup_nil
    · exact fun _ _ h => nomatch h
theorem x_FFF_o {X : Cx} {W : Bool} {F : Fm} {Γ : Gm} {Δ : Δs} {γ : Type} {x : Str} {p pos : Pos} {e1 e2 e3 : Expr} {f : Addr} {fd : FuncData} {ps : List Str} {kk : Nat} {α1 α2 α3 ρ β1 β2 β3 : Type} {E1 : α1 → Pd} {E2 : α2 → Pd} {E3 : α3 → Pd} {Mf : α1 → α2 → α3 → Option (ρ)} {Rp : ρ → Od} {T : Option γ} {Δ1 : β1 → Δs} {x1 : β1 → α1} {k1 : β1 → Option γ} {Δ2 : β1 → β2 → Δs} {x2 : β1 → β2 → α2} {k2 : β1 → β2 → Option γ} {Δ3 : β1 → β2 → β3 → Δs} {x3 : β1 → β2 → β3 → α3} {k : (β1 × β2 × β3) × (ρ) → Option γ}
    (G : FnOk X.prog X.w X.K X.mg X.base CX0 kk f fd ps (Sp_FFF_o E1 E2 E3 Mf Rp)) (hr : Room kk X.A) (hm : X.mg x = some (.ref f)) (hk : PySem.W.keepIn X.K (.ref f) = true) (hb : Binds X.K fd ps []) (h1 : PE X e1 (tE W F Γ Δ T (k1) (fun b1 => E1 (x1 b1)) (Δ1))) (h2 : ∀ b1, PE X e2 (tE W F Γ (Δ1 b1) (k1 b1) (k2 b1) (fun b2 => E2 (x2 b1 b2)) (Δ2 b1))) (h3 : ∀ b1 b2, PE X e3 (tE W F Γ (Δ2 b1 b2) (k2 b1 b2) (fun b3 => (Mf (x1 b1) (x2 b1 b2) (x3 b1 b2 b3)).bind fun r => k ((b1, b2, b3), r)) (fun b3 => E3 (x3 b1 b2 b3)) (Δ3 b1 b2)))
     (hg : Gl X x := by rfl) (hdb : (x == ("__debug__" : Str)) = false := by decide) (st1 : starEach [e1, e2, e3] X.env = (false, eval e1 X.env) :: starEach [e2, e3] X.env := by rfl) (st2 : starEach [e2, e3] X.env = (false, eval e2 X.env) :: starEach [e3] X.env := by rfl) (st3 : starEach [e3] X.env = (false, eval e3 X.env) :: starEach [] X.env := by rfl) (hpl : (backTo pos (starEach [e2, e3] X.env)).any (·.1) = false := by rfl) :
    PE X (.Call (.Name x p) [e1, e2, e3] [] pos) (tO W F Γ Δ T k (fun b => Rp b.2) fun b => Δ3 b.1.1 b.1.2.1 b.1.2.2) :=
  (pe_call G hr hg hm hk hb .nil pass0 (pa_cons h1 (pa_cons (pe_ex fun b1 => h2 b1) (pa_cons (pe_ex fun b1 => pe_ex fun b2 => h3 b1 b2) pa_nil st3) st2) st1) hdb st1 hpl).wk fun σ H Q ⟨ok, g, e, q⟩ => ⟨ok, g, e, fun b1 v1 H1 kb1 f1 ok1 hv1 => ⟨b1, ok1, g, kb1, fun b2 v2 H2 kb2 f2 ok2 hv2 => ⟨b1, b2, ok2, g, kb2, fun b3 v3 H3 kb3 f3 ok3 hv3 => by
    obtain ⟨r, er, kr⟩ := bind_some kb3
    refine ⟨v1, v2, v3, x1 b1, x2 b1 b2, x3 b1 b2 b3, rfl, ((E1 _).mono (f2.fz.trans f3.fz) hv1), ((E2 _).mono f3.fz hv2), hv3, r, er, fun v H' hk => ?_⟩
    obtain ⟨ok', st⟩ := call_o0 (W := W) ok3 hk
    exact q ((b1, b2, b3), r) v H' kr (((f1.trans f2).trans f3).trans st) (ok'.since ((f1.trans f2).trans f3))⟩⟩⟩
def Sp_FF_f {α1 α2 ρ : Type} (E1 : α1 → Pd) (E2 : α2 → Pd) (Mf : α1 → α2 → Option (ρ)) (Rp : ρ → Pd) : Sp := fun vs H Q _ => ∃ (v1 v2 : V)  (a1 : α1) (a2 : α2), vs = [v1, v2] ∧ (E1 a1).pr H v1 ∧ (E2 a2).pr H v2 ∧ ∃ r, Mf a1 a2 = some r ∧ RF ⟨H, []⟩ (fun _ => []) (Rp) r Q
theorem fn_FF_f {P : Program} {w : World} {K : PySem.W.Frag} {mg : Str → Option Value} {base : Heap} {x qual : Str} {params : Arguments} {body : List Stmt} {scope : Scope} {dvs : List V} {kws : List (Str × V)} {f : Addr} {fd : FuncData} {N ps : List Str} {k : Nat} {α1 α2 ρ : Type} {E1 : α1 → Pd} {E2 : α2 → Pd} {Mf : α1 → α2 → Option (ρ)} {Rp : ρ → Pd}
    (FD : FunD K x qual params body scope dvs kws f fd) (S : FnScope N ps scope) (hl : 2 = ps.length)
    (hb : ∀ (cdv : Value) (A : Around) (outer : List Env) (s : Shared) (H : Hp) (E : XK) (hr : Room k (A.deeper (envOfC qual scope s.heap.objs.size f cdv)))  (a1 : α1) (a2 : α2), PSs (cxOf CX0 P w K mg base N qual scope f cdv A outer s H E).nox body
      (tS ⟨H, []⟩ (([E1 a1, E2 a2] : List Pd).map some ++ List.replicate (N.length - 2) none) [] (fF (RF ⟨H, []⟩ (fun _ => []) (Rp))) (Mf a1 a2))) : FnOk P w K mg base CX0 (k + 1) f fd ps (Sp_FF_f E1 E2 Mf Rp) := by
  refine FD.ok S (fun vs H Q E h => ?_) (fun cdv A outer s H vs Q E hr h => ?_)
  · obtain ⟨v1, v2, a1, a2, rfl, _⟩ := h
    exact hl
  · obtain ⟨v1, v2, a1, a2, rfl, p1, p2, r, hM, fin⟩ := h
    refine ⟨_, PSs.nox (hb cdv A outer s H E hr  a1 a2), ok_start (Δ := []) rfl (.cons p1 (.cons p2 (.nil))) ?_ ?_ ?_, r, hM, fin⟩
    · exact fun _ h => nomatch h
    · exact List.nodup_nil
    · exact fun _ _ h => nomatch h
theorem x_FF_f {X : Cx} {W : Bool} {F : Fm} {Γ : Gm} {Δ : Δs} {γ : Type} {x : Str} {p pos : Pos} {e1 e2 : Expr} {f : Addr} {fd : FuncData} {ps : List Str} {kk : Nat} {α1 α2 ρ β1 β2 : Type} {E1 : α1 → Pd} {E2 : α2 → Pd} {Mf : α1 → α2 → Option (ρ)} {Rp : ρ → Pd} {T : Option γ} {Δ1 : β1 → Δs} {x1 : β1 → α1} {k1 : β1 → Option γ} {Δ2 : β1 → β2 → Δs} {x2 : β1 → β2 → α2} {k : (β1 × β2) × (ρ) → Option γ}
    (G : FnOk X.prog X.w X.K X.mg X.base CX0 kk f fd ps (Sp_FF_f E1 E2 Mf Rp)) (hr : Room kk X.A) (hm : X.mg x = some (.ref f)) (hk : PySem.W.keepIn X.K (.ref f) = true) (hb : Binds X.K fd ps []) (h1 : PE X e1 (tE W F Γ Δ T (k1) (fun b1 => E1 (x1 b1)) (Δ1))) (h2 : ∀ b1, PE X e2 (tE W F Γ (Δ1 b1) (k1 b1) (fun b2 => (Mf (x1 b1) (x2 b1 b2)).bind fun r => k ((b1, b2), r)) (fun b2 => E2 (x2 b1 b2)) (Δ2 b1)))
     (hg : Gl X x := by rfl) (hdb : (x == ("__debug__" : Str)) = false := by decide) (st1 : starEach [e1, e2] X.env = (false, eval e1 X.env) :: starEach [e2] X.env := by rfl) (st2 : starEach [e2] X.env = (false, eval e2 X.env) :: starEach [] X.env := by rfl) (hpl : (backTo pos (starEach [e2] X.env)).any (·.1) = false := by rfl) :
    PE X (.Call (.Name x p) [e1, e2] [] pos) (tE W F Γ Δ T k (fun b => Rp b.2) fun b => Δ2 b.1.1 b.1.2) :=
  (pe_call G hr hg hm hk hb .nil pass0 (pa_cons h1 (pa_cons (pe_ex fun b1 => h2 b1) pa_nil st2) st1) hdb st1 hpl).wk fun σ H Q ⟨ok, g, e, q⟩ => ⟨ok, g, e, fun b1 v1 H1 kb1 f1 ok1 hv1 => ⟨b1, ok1, g, kb1, fun b2 v2 H2 kb2 f2 ok2 hv2 => by
    obtain ⟨r, er, kr⟩ := bind_some kb2
    refine ⟨v1, v2, x1 b1, x2 b1 b2, rfl, ((E1 _).mono f2.fz hv1), hv2, r, er, fun v H' hk hv => ?_⟩
    obtain ⟨ok', st⟩ := call_f0 (W := W) ok2 hk
    exact q ((b1, b2), r) v H' kr ((f1.trans f2).trans st) ok' hv⟩⟩
def Sp_FF_o {α1 α2 ρ : Type} (E1 : α1 → Pd) (E2 : α2 → Pd) (Mf : α1 → α2 → Option (ρ)) (Rp : ρ → Od) : Sp := fun vs H Q _ => ∃ (v1 v2 : V)  (a1 : α1) (a2 : α2), vs = [v1, v2] ∧ (E1 a1).pr H v1 ∧ (E2 a2).pr H v2 ∧ ∃ r, Mf a1 a2 = some r ∧ RO ⟨H, []⟩ (fun _ => []) (Rp) r Q
theorem fn_FF_o {P : Program} {w : World} {K : PySem.W.Frag} {mg : Str → Option Value} {base : Heap} {x qual : Str} {params : Arguments} {body : List Stmt} {scope : Scope} {dvs : List V} {kws : List (Str × V)} {f : Addr} {fd : FuncData} {N ps : List Str} {k : Nat} {α1 α2 ρ : Type} {E1 : α1 → Pd} {E2 : α2 → Pd} {Mf : α1 → α2 → Option (ρ)} {Rp : ρ → Od}
    (FD : FunD K x qual params body scope dvs kws f fd) (S : FnScope N ps scope) (hl : 2 = ps.length)
    (hb : ∀ (cdv : Value) (A : Around) (outer : List Env) (s : Shared) (H : Hp) (E : XK) (hr : Room k (A.deeper (envOfC qual scope s.heap.objs.size f cdv)))  (a1 : α1) (a2 : α2), PSs (cxOf CX0 P w K mg base N qual scope f cdv A outer s H E).nox body
      (tS ⟨H, []⟩ (([E1 a1, E2 a2] : List Pd).map some ++ List.replicate (N.length - 2) none) [] (fF (RO ⟨H, []⟩ (fun _ => []) (Rp))) (Mf a1 a2))) : FnOk P w K mg base CX0 (k + 1) f fd ps (Sp_FF_o E1 E2 Mf Rp) := by
  refine FD.ok S (fun vs H Q E h => ?_) (fun cdv A outer s H vs Q E hr h => ?_)
  · obtain ⟨v1, v2, a1, a2, rfl, _⟩ := h
    exact hl
  · obtain ⟨v1, v2, a1, a2, rfl, p1, p2, r, hM, fin⟩ := h
    refine ⟨_, PSs.nox (hb cdv A outer s H E hr  a1 a2), ok_start (Δ := []) rfl (.cons p1 (.cons p2 (.nil))) ?_ ?_ ?_, r, hM, fin⟩
    · exact fun _ h => nomatch h
    · exact List.nodup_nil
    · exact fun _ _ h => nomatch h
theorem x_FF_o {X : Cx} {W : Bool} {F : Fm} {Γ : Gm} {Δ : Δs} {γ : Type} {x : Str} {p pos : Pos} {e1 e2 : Expr} {f : Addr} {fd : FuncData} {ps : List Str} {kk : Nat} {α1 α2 ρ β1 β2 : Type} {E1 : α1 → Pd} {E2 : α2 → Pd} {Mf : α1 → α2 → Option (ρ)} {Rp : ρ → Od} {T : Option γ} {Δ1 : β1 → Δs} {x1 : β1 → α1} {k1 : β1 → Option γ} {Δ2 : β1 → β2 → Δs} {x2 : β1 → β2 → α2} {k : (β1 × β2) × (ρ) → Option γ}
    (G : FnOk X.prog X.w X.K X.mg X.base CX0 kk f fd ps (Sp_FF_o E1 E2 Mf Rp)) (hr : Room kk X.A) (hm : X.mg x = some (.ref f)) (hk : PySem.W.keepIn X.K (.ref f) = true) (hb : Binds X.K fd ps []) (h1 : PE X e1 (tE W F Γ Δ T (k1) (fun b1 => E1 (x1 b1)) (Δ1))) (h2 : ∀ b1, PE X e2 (tE W F Γ (Δ1 b1) (k1 b1) (fun b2 => (Mf (x1 b1) (x2 b1 b2)).bind fun r => k ((b1, b2), r)) (fun b2 => E2 (x2 b1 b2)) (Δ2 b1)))
     (hg : Gl X x := by rfl) (hdb : (x == ("__debug__" : Str)) = false := by decide) (st1 : starEach [e1, e2] X.env = (false, eval e1 X.env) :: starEach [e2] X.env := by rfl) (st2 : starEach [e2] X.env = (false, eval e2 X.env) :: starEach [] X.env := by rfl) (hpl : (backTo pos (starEach [e2] X.env)).any (·.1) = false := by rfl) :
    PE X (.Call (.Name x p) [e1, e2] [] pos) (tO W F Γ Δ T k (fun b => Rp b.2) fun b => Δ2 b.1.1 b.1.2) :=
  (pe_call G hr hg hm hk hb .nil pass0 (pa_cons h1 (pa_cons (pe_ex fun b1 => h2 b1) pa_nil st2) st1) hdb st1 hpl).wk fun σ H Q ⟨ok, g, e, q⟩ => ⟨ok, g, e, fun b1 v1 H1 kb1 f1 ok1 hv1 => ⟨b1, ok1, g, kb1, fun b2 v2 H2 kb2 f2 ok2 hv2 => by
    obtain ⟨r, er, kr⟩ := bind_some kb2
    refine ⟨v1, v2, x1 b1, x2 b1 b2, rfl, ((E1 _).mono f2.fz hv1), hv2, r, er, fun v H' hk => ?_⟩
    obtain ⟨ok', st⟩ := call_o0 (W := W) ok2 hk
    exact q ((b1, b2), r) v H' kr ((f1.trans f2).trans st) (ok'.since (f1.trans f2))⟩⟩
def Sp_F_f {α1 ρ : Type} (E1 : α1 → Pd) (Mf : α1 → Option (ρ)) (Rp : ρ → Pd) : Sp := fun vs H Q _ => ∃ (v1 : V)  (a1 : α1), vs = [v1] ∧ (E1 a1).pr H v1 ∧ ∃ r, Mf a1 = some r ∧ RF ⟨H, []⟩ (fun _ => []) (Rp) r Q
theorem fn_F_f {P : Program} {w : World} {K : PySem.W.Frag} {mg : Str → Option Value} {base : Heap} {x qual : Str} {params : Arguments} {body : List Stmt} {scope : Scope} {dvs : List V} {kws : List (Str × V)} {f : Addr} {fd : FuncData} {N ps : List Str} {k : Nat} {α1 ρ : Type} {E1 : α1 → Pd} {Mf : α1 → Option (ρ)} {Rp : ρ → Pd}
    (FD : FunD K x qual params body scope dvs kws f fd) (S : FnScope N ps scope) (hl : 1 = ps.length)
    (hb : ∀ (cdv : Value) (A : Around) (outer : List Env) (s : Shared) (H : Hp) (E : XK) (hr : Room k (A.deeper (envOfC qual scope s.heap.objs.size f cdv)))  (a1 : α1), PSs (cxOf CX0 P w K mg base N qual scope f cdv A outer s H E).nox body
      (tS ⟨H, []⟩ (([E1 a1] : List Pd).map some ++ List.replicate (N.length - 1) none) [] (fF (RF ⟨H, []⟩ (fun _ => []) (Rp))) (Mf a1))) : FnOk P w K mg base CX0 (k + 1) f fd ps (Sp_F_f E1 Mf Rp) := by
  refine FD.ok S (fun vs H Q E h => ?_) (fun cdv A outer s H vs Q E hr h => ?_)
  · obtain ⟨v1, a1, rfl, _⟩ := h
    exact hl
  · obtain ⟨v1, a1, rfl, p1, r, hM, fin⟩ := h
    refine ⟨_, PSs.nox (hb cdv A outer s H E hr  a1), ok_start (Δ := []) rfl (.cons p1 (.nil)) ?_ ?_ ?_, r, hM, fin⟩
    · exact fun _ h => nomatch h
    · exact List.nodup_nil
    · exact fun _ _ h => nomatch h
theorem x_F_f {X : Cx} {W : Bool} {F : Fm} {Γ : Gm} {Δ : Δs} {γ : Type} {x : Str} {p pos : Pos} {e1 : Expr} {f : Addr} {fd : FuncData} {ps : List Str} {kk : Nat} {α1 ρ β1 : Type} {E1 : α1 → Pd} {Mf : α1 → Option (ρ)} {Rp : ρ → Pd} {T : Option γ} {Δ1 : β1 → Δs} {x1 : β1 → α1} {k : (β1) × (ρ) → Option γ}
    (G : FnOk X.prog X.w X.K X.mg X.base CX0 kk f fd ps (Sp_F_f E1 Mf Rp)) (hr : Room kk X.A) (hm : X.mg x = some (.ref f)) (hk : PySem.W.keepIn X.K (.ref f) = true) (hb : Binds X.K fd ps []) (h1 : PE X e1 (tE W F Γ Δ T (fun b1 => (Mf (x1 b1)).bind fun r => k (b1, r)) (fun b1 => E1 (x1 b1)) (Δ1)))
     (hg : Gl X x := by rfl) (hdb : (x == ("__debug__" : Str)) = false := by decide) (st1 : starEach [e1] X.env = (false, eval e1 X.env) :: starEach [] X.env := by rfl) (hpl : (backTo pos (starEach [] X.env)).any (·.1) = false := by rfl) :
    PE X (.Call (.Name x p) [e1] [] pos) (tE W F Γ Δ T k (fun b => Rp b.2) fun b => Δ1 b.1) :=
  (pe_call G hr hg hm hk hb .nil pass0 (pa_cons h1 pa_nil st1) hdb st1 hpl).wk fun σ H Q ⟨ok, g, e, q⟩ => ⟨ok, g, e, fun b1 v1 H1 kb1 f1 ok1 hv1 => by
    obtain ⟨r, er, kr⟩ := bind_some kb1
    refine ⟨v1, x1 b1, rfl, hv1, r, er, fun v H' hk hv => ?_⟩
    obtain ⟨ok', st⟩ := call_f0 (W := W) ok1 hk
    exact q (b1, r) v H' kr (f1.trans st) ok' hv⟩
def Sp_F_o {α1 ρ : Type} (E1 : α1 → Pd) (Mf : α1 → Option (ρ)) (Rp : ρ → Od) : Sp := fun vs H Q _ => ∃ (v1 : V)  (a1 : α1), vs = [v1] ∧ (E1 a1).pr H v1 ∧ ∃ r, Mf a1 = some r ∧ RO ⟨H, []⟩ (fun _ => []) (Rp) r Q
theorem fn_F_o {P : Program} {w : World} {K : PySem.W.Frag} {mg : Str → Option Value} {base : Heap} {x qual : Str} {params : Arguments} {body : List Stmt} {scope : Scope} {dvs : List V} {kws : List (Str × V)} {f : Addr} {fd : FuncData} {N ps : List Str} {k : Nat} {α1 ρ : Type} {E1 : α1 → Pd} {Mf : α1 → Option (ρ)} {Rp : ρ → Od}
    (FD : FunD K x qual params body scope dvs kws f fd) (S : FnScope N ps scope) (hl : 1 = ps.length)
    (hb : ∀ (cdv : Value) (A : Around) (outer : List Env) (s : Shared) (H : Hp) (E : XK) (hr : Room k (A.deeper (envOfC qual scope s.heap.objs.size f cdv)))  (a1 : α1), PSs (cxOf CX0 P w K mg base N qual scope f cdv A outer s H E).nox body
      (tS ⟨H, []⟩ (([E1 a1] : List Pd).map some ++ List.replicate (N.length - 1) none) [] (fF (RO ⟨H, []⟩ (fun _ => []) (Rp))) (Mf a1))) : FnOk P w K mg base CX0 (k + 1) f fd ps (Sp_F_o E1 Mf Rp) := by
  refine FD.ok S (fun vs H Q E h => ?_) (fun cdv A outer s H vs Q E hr h => ?_)
  · obtain ⟨v1, a1, rfl, _⟩ := h
    exact hl
  · obtain ⟨v1, a1, rfl, p1, r, hM, fin⟩ := h
    refine ⟨_, PSs.nox (hb cdv A outer s H E hr  a1), ok_start (Δ := []) rfl (.cons p1 (.nil)) ?_ ?_ ?_, r, hM, fin⟩
    · exact fun _ h => nomatch h
    · exact List.nodup_nil
    · exact fun _ _ h => nomatch h
theorem x_F_o {X : Cx} {W : Bool} {F : Fm} {Γ : Gm} {Δ : Δs} {γ : Type} {x : Str} {p pos : Pos} {e1 : Expr} {f : Addr} {fd : FuncData} {ps : List Str} {kk : Nat} {α1 ρ β1 : Type} {E1 : α1 → Pd} {Mf : α1 → Option (ρ)} {Rp : ρ → Od} {T : Option γ} {Δ1 : β1 → Δs} {x1 : β1 → α1} {k : (β1) × (ρ) → Option γ}
    (G : FnOk X.prog X.w X.K X.mg X.base CX0 kk f fd ps (Sp_F_o E1 Mf Rp)) (hr : Room kk X.A) (hm : X.mg x = some (.ref f)) (hk : PySem.W.keepIn X.K (.ref f) = true) (hb : Binds X.K fd ps []) (h1 : PE X e1 (tE W F Γ Δ T (fun b1 => (Mf (x1 b1)).bind fun r => k (b1, r)) (fun b1 => E1 (x1 b1)) (Δ1)))
     (hg : Gl X x := by rfl) (hdb : (x == ("__debug__" : Str)) = false := by decide) (st1 : starEach [e1] X.env = (false, eval e1 X.env) :: starEach [] X.env := by rfl) (hpl : (backTo pos (starEach [] X.env)).any (·.1) = false := by rfl) :
    PE X (.Call (.Name x p) [e1] [] pos) (tO W F Γ Δ T k (fun b => Rp b.2) fun b => Δ1 b.1) :=
  (pe_call G hr hg hm hk hb .nil pass0 (pa_cons h1 pa_nil st1) hdb st1 hpl).wk fun σ H Q ⟨ok, g, e, q⟩ => ⟨ok, g, e, fun b1 v1 H1 kb1 f1 ok1 hv1 => by
    obtain ⟨r, er, kr⟩ := bind_some kb1
    refine ⟨v1, x1 b1, rfl, hv1, r, er, fun v H' hk => ?_⟩
    obtain ⟨ok', st⟩ := call_o0 (W := W) ok1 hk
    exact q (b1, r) v H' kr (f1.trans st) (ok'.since f1)⟩
def Sp_OFFF_f {α1 α2 α3 α4 ρ : Type} (E1 : α1 → Od) (E2 : α2 → Pd) (E3 : α3 → Pd) (E4 : α4 → Pd) (Mf : α1 → α2 → α3 → α4 → Option (ρ × α1)) (Rp : ρ → Pd) : Sp := fun vs H Q _ => ∃ (v1 v2 v3 v4 : V) (G1 : List Addr) (a1 : α1) (a2 : α2) (a3 : α3) (a4 : α4), vs = [v1, v2, v3, v4] ∧ (E1 a1).pr G1 H v1 ∧ G1.Nodup ∧ (E2 a2).pr H v2 ∧ (E3 a3).pr H v3 ∧ (E4 a4).pr H v4 ∧ ∃ r, Mf a1 a2 a3 a4 = some r ∧ RF ⟨H, [G1]⟩ (fun r => [⟨v1, E1 r.2, some 0⟩]) (fun r => Rp r.1) r Q
theorem fn_OFFF_f {P : Program} {w : World} {K : PySem.W.Frag} {mg : Str → Option Value} {base : Heap} {x qual : Str} {params : Arguments} {body : List Stmt} {scope : Scope} {dvs : List V} {kws : List (Str × V)} {f : Addr} {fd : FuncData} {N ps : List Str} {k : Nat} {α1 α2 α3 α4 ρ : Type} {E1 : α1 → Od} {E2 : α2 → Pd} {E3 : α3 → Pd} {E4 : α4 → Pd} {Mf : α1 → α2 → α3 → α4 → Option (ρ × α1)} {Rp : ρ → Pd}
    (FD : FunD K x qual params body scope dvs kws f fd) (S : FnScope N ps scope) (hl : 4 = ps.length)
    (hb : ∀ (cdv : Value) (A : Around) (outer : List Env) (s : Shared) (H : Hp) (E : XK) (hr : Room k (A.deeper (envOfC qual scope s.heap.objs.size f cdv))) (v1 : V) (G1 : List Addr) (a1 : α1) (a2 : α2) (a3 : α3) (a4 : α4), PSs (cxOf CX0 P w K mg base N qual scope f cdv A outer s H E).nox body
      (tS ⟨H, [G1]⟩ (([pV v1, E2 a2, E3 a3, E4 a4] : List Pd).map some ++ List.replicate (N.length - 4) none) [⟨v1, E1 a1, some 0⟩] (fF (RF ⟨H, [G1]⟩ (fun r => [⟨v1, E1 r.2, some 0⟩]) (fun r => Rp r.1))) (Mf a1 a2 a3 a4))) : FnOk P w K mg base CX0 (k + 1) f fd ps (Sp_OFFF_f E1 E2 E3 E4 Mf Rp) := by
  refine FD.ok S (fun vs H Q E h => ?_) (fun cdv A outer s H vs Q E hr h => ?_)
  · obtain ⟨v1, v2, v3, v4, G1, a1, a2, a3, a4, rfl, _⟩ := h
    exact hl
  · obtain ⟨v1, v2, v3, v4, G1, a1, a2, a3, a4, rfl, p1, n1, p2, p3, p4, r, hM, fin⟩ := h
    refine ⟨_, PSs.nox (hb cdv A outer s H E hr v1 G1 a1 a2 a3 a4), ok_start (Δ := [⟨G1, v1, E1 a1, some 0⟩]) rfl (.cons rfl (.cons p2 (.cons p3 (.cons p4 (.nil))))) ?_ ?_ ?_, r, hM, fin⟩
    · intro c hc; rw [List.mem_singleton.mp hc]; exact p1
    · rw [cellsOf_cons]; show (_ ++ []).Nodup; rw [List.append_nil]; exact n1
    · intro i c h; match i, h with | 0, h => cases h; rfl | _ + 1, h => cases h
theorem x_OFFF_f {X : Cx} {F : Fm} {Γ : Gm} {Δ : Δs} {γ : Type} {x : Str} {p pos : Pos} {e1 e2 e3 e4 : Expr} {f : Addr} {fd : FuncData} {ps : List Str} {kk : Nat} {α1 α2 α3 α4 ρ β1 β2 β3 β4 : Type} {E1 : α1 → Od} {E2 : α2 → Pd} {E3 : α3 → Pd} {E4 : α4 → Pd} {Mf : α1 → α2 → α3 → α4 → Option (ρ × α1)} {Rp : ρ → Pd} {T : Option γ} {Δ1 : β1 → Δs} {k1 : β1 → Option γ} {Δ2 : β1 → β2 → Δs} {x2 : β1 → β2 → α2} {k2 : β1 → β2 → Option γ} {Δ3 : β1 → β2 → β3 → Δs} {x3 : β1 → β2 → β3 → α3} {k3 : β1 → β2 → β3 → Option γ} {Δ4 : β1 → β2 → β3 → β4 → Δs} {x4 : β1 → β2 → β3 → β4 → α4} {v1 : V} {prm : Option Nat} {s1 : β1 → β2 → β3 → β4 → α1} {k : (β1 × β2 × β3 × β4) × (ρ × α1) → Option γ}
    (G : FnOk X.prog X.w X.K X.mg X.base CX0 kk f fd ps (Sp_OFFF_f E1 E2 E3 E4 Mf Rp)) (hr : Room kk X.A) (hm : X.mg x = some (.ref f)) (hk : PySem.W.keepIn X.K (.ref f) = true) (hb : Binds X.K fd ps []) (j : Nat) (h1 : PE X e1 (tE true F Γ Δ T (k1) (fun b1 => pV v1) (Δ1))) (h2 : ∀ b1, PE X e2 (tE true F Γ (Δ1 b1) (k1 b1) (k2 b1) (fun b2 => E2 (x2 b1 b2)) (Δ2 b1))) (h3 : ∀ b1 b2, PE X e3 (tE true F Γ (Δ2 b1 b2) (k2 b1 b2) (k3 b1 b2) (fun b3 => E3 (x3 b1 b2 b3)) (Δ3 b1 b2))) (h4 : ∀ b1 b2 b3, PE X e4 (tE true F Γ (Δ3 b1 b2 b3) (k3 b1 b2 b3) (fun b4 => (Mf (s1 b1 b2 b3 b4) (x2 b1 b2) (x3 b1 b2 b3) (x4 b1 b2 b3 b4)).bind fun r => k ((b1, b2, b3, b4), r)) (fun b4 => E4 (x4 b1 b2 b3 b4)) (Δ4 b1 b2 b3)))
    (hj : ∀ b1 b2 b3 b4, (Δ4 b1 b2 b3 b4)[j]? = some ⟨v1, E1 (s1 b1 b2 b3 b4), prm⟩) (hg : Gl X x := by rfl) (hdb : (x == ("__debug__" : Str)) = false := by decide) (st1 : starEach [e1, e2, e3, e4] X.env = (false, eval e1 X.env) :: starEach [e2, e3, e4] X.env := by rfl) (st2 : starEach [e2, e3, e4] X.env = (false, eval e2 X.env) :: starEach [e3, e4] X.env := by rfl) (st3 : starEach [e3, e4] X.env = (false, eval e3 X.env) :: starEach [e4] X.env := by rfl) (st4 : starEach [e4] X.env = (false, eval e4 X.env) :: starEach [] X.env := by rfl) (hpl : (backTo pos (starEach [e2, e3, e4] X.env)).any (·.1) = false := by rfl) :
    PE X (.Call (.Name x p) [e1, e2, e3, e4] [] pos) (tE true F Γ Δ T k (fun b => Rp b.2.1) fun b => (Δ4 b.1.1 b.1.2.1 b.1.2.2.1 b.1.2.2.2).set j ⟨v1, E1 b.2.2, prm⟩) :=
  (pe_call G hr hg hm hk hb .nil pass0 (pa_cons h1 (pa_cons (pe_ex fun b1 => h2 b1) (pa_cons (pe_ex fun b1 => pe_ex fun b2 => h3 b1 b2) (pa_cons (pe_ex fun b1 => pe_ex fun b2 => pe_ex fun b3 => h4 b1 b2 b3) pa_nil st4) st3) st2) st1) hdb st1 hpl).wk fun σ H Q ⟨ok, g, e, q⟩ => ⟨ok, g, e, fun b1 v1 H1 kb1 f1 ok1 hv1 => ⟨b1, ok1, g, kb1, fun b2 v2 H2 kb2 f2 ok2 hv2 => ⟨b1, b2, ok2, g, kb2, fun b3 v3 H3 kb3 f3 ok3 hv3 => ⟨b1, b2, b3, ok3, g, kb3, fun b4 v4 H4 kb4 f4 ok4 hv4 => by
    obtain ⟨r, er, kr⟩ := bind_some kb4
    have hv1 : v1 = _ := hv1
    subst hv1
    obtain ⟨G0, hcell, hnd, ret_f, ret_o⟩ := ok4.lend1 (hj b1 b2 b3 b4)
    refine ⟨_, v2, v3, v4, G0, s1 b1 b2 b3 b4, x2 b1 b2, x3 b1 b2 b3, x4 b1 b2 b3 b4, rfl, hcell, hnd, ((E2 _).mono (f3.fz.trans f4.fz) hv2), ((E3 _).mono f4.fz hv3), hv4, r, er, fun v H' hk hv => ?_⟩
    obtain ⟨ok', st⟩ := ret_f _ _ hk
    exact q ((b1, b2, b3, b4), r) v H' kr ((((f1.trans f2).trans f3).trans f4).trans st) ok' hv⟩⟩⟩⟩
def Sp_OFFF_o {α1 α2 α3 α4 ρ : Type} (E1 : α1 → Od) (E2 : α2 → Pd) (E3 : α3 → Pd) (E4 : α4 → Pd) (Mf : α1 → α2 → α3 → α4 → Option (ρ × α1)) (Rp : ρ → Od) : Sp := fun vs H Q _ => ∃ (v1 v2 v3 v4 : V) (G1 : List Addr) (a1 : α1) (a2 : α2) (a3 : α3) (a4 : α4), vs = [v1, v2, v3, v4] ∧ (E1 a1).pr G1 H v1 ∧ G1.Nodup ∧ (E2 a2).pr H v2 ∧ (E3 a3).pr H v3 ∧ (E4 a4).pr H v4 ∧ ∃ r, Mf a1 a2 a3 a4 = some r ∧ RO ⟨H, [G1]⟩ (fun r => [⟨v1, E1 r.2, some 0⟩]) (fun r => Rp r.1) r Q
theorem fn_OFFF_o {P : Program} {w : World} {K : PySem.W.Frag} {mg : Str → Option Value} {base : Heap} {x qual : Str} {params : Arguments} {body : List Stmt} {scope : Scope} {dvs : List V} {kws : List (Str × V)} {f : Addr} {fd : FuncData} {N ps : List Str} {k : Nat} {α1 α2 α3 α4 ρ : Type} {E1 : α1 → Od} {E2 : α2 → Pd} {E3 : α3 → Pd} {E4 : α4 → Pd} {Mf : α1 → α2 → α3 → α4 → Option (ρ × α1)} {Rp : ρ → Od}
    (FD : FunD K x qual params body scope dvs kws f fd) (S : FnScope N ps scope) (hl : 4 = ps.length)
    (hb : ∀ (cdv : Value) (A : Around) (outer : List Env) (s : Shared) (H : Hp) (E : XK) (hr : Room k (A.deeper (envOfC qual scope s.heap.objs.size f cdv))) (v1 : V) (G1 : List Addr) (a1 : α1) (a2 : α2) (a3 : α3) (a4 : α4), PSs (cxOf CX0 P w K mg base N qual scope f cdv A outer s H E).nox body
      (tS ⟨H, [G1]⟩ (([pV v1, E2 a2, E3 a3, E4 a4] : List Pd).map some ++ List.replicate (N.length - 4) none) [⟨v1, E1 a1, some 0⟩] (fF (RO ⟨H, [G1]⟩ (fun r => [⟨v1, E1 r.2, some 0⟩]) (fun r => Rp r.1))) (Mf a1 a2 a3 a4))) : FnOk P w K mg base CX0 (k + 1) f fd ps (Sp_OFFF_o E1 E2 E3 E4 Mf Rp) := by
  refine FD.ok S (fun vs H Q E h => ?_) (fun cdv A outer s H vs Q E hr h => ?_)
  · obtain ⟨v1, v2, v3, v4, G1, a1, a2, a3, a4, rfl, _⟩ := h
    exact hl
  · obtain ⟨v1, v2, v3, v4, G1, a1, a2, a3, a4, rfl, p1, n1, p2, p3, p4, r, hM, fin⟩ := h
    refine ⟨_, PSs.nox (hb cdv A outer s H E hr v1 G1 a1 a2 a3 a4), ok_start (Δ := [⟨G1, v1, E1 a1, some 0⟩]) rfl (.cons rfl (.cons p2 (.cons p3 (.cons p4 (.nil))))) ?_ ?_ ?_, r, hM, fin⟩
    · intro c hc; rw [List.mem_singleton.mp hc]; exact p1
    · rw [cellsOf_cons]; show (_ ++ []).Nodup; rw [List.append_nil]; exact n1
    · intro i c h; match i, h with | 0, h => cases h; rfl | _ + 1, h => cases h
theorem x_OFFF_o {X : Cx} {F : Fm} {Γ : Gm} {Δ : Δs} {γ : Type} {x : Str} {p pos : Pos} {e1 e2 e3 e4 : Expr} {f : Addr} {fd : FuncData} {ps : List Str} {kk : Nat} {α1 α2 α3 α4 ρ β1 β2 β3 β4 : Type} {E1 : α1 → Od} {E2 : α2 → Pd} {E3 : α3 → Pd} {E4 : α4 → Pd} {Mf : α1 → α2 → α3 → α4 → Option (ρ × α1)} {Rp : ρ → Od} {T : Option γ} {Δ1 : β1 → Δs} {k1 : β1 → Option γ} {Δ2 : β1 → β2 → Δs} {x2 : β1 → β2 → α2} {k2 : β1 → β2 → Option γ} {Δ3 : β1 → β2 → β3 → Δs} {x3 : β1 → β2 → β3 → α3} {k3 : β1 → β2 → β3 → Option γ} {Δ4 : β1 → β2 → β3 → β4 → Δs} {x4 : β1 → β2 → β3 → β4 → α4} {v1 : V} {prm : Option Nat} {s1 : β1 → β2 → β3 → β4 → α1} {k : (β1 × β2 × β3 × β4) × (ρ × α1) → Option γ}
    (G : FnOk X.prog X.w X.K X.mg X.base CX0 kk f fd ps (Sp_OFFF_o E1 E2 E3 E4 Mf Rp)) (hr : Room kk X.A) (hm : X.mg x = some (.ref f)) (hk : PySem.W.keepIn X.K (.ref f) = true) (hb : Binds X.K fd ps []) (j : Nat) (h1 : PE X e1 (tE true F Γ Δ T (k1) (fun b1 => pV v1) (Δ1))) (h2 : ∀ b1, PE X e2 (tE true F Γ (Δ1 b1) (k1 b1) (k2 b1) (fun b2 => E2 (x2 b1 b2)) (Δ2 b1))) (h3 : ∀ b1 b2, PE X e3 (tE true F Γ (Δ2 b1 b2) (k2 b1 b2) (k3 b1 b2) (fun b3 => E3 (x3 b1 b2 b3)) (Δ3 b1 b2))) (h4 : ∀ b1 b2 b3, PE X e4 (tE true F Γ (Δ3 b1 b2 b3) (k3 b1 b2 b3) (fun b4 => (Mf (s1 b1 b2 b3 b4) (x2 b1 b2) (x3 b1 b2 b3) (x4 b1 b2 b3 b4)).bind fun r => k ((b1, b2, b3, b4), r)) (fun b4 => E4 (x4 b1 b2 b3 b4)) (Δ4 b1 b2 b3)))
    (hj : ∀ b1 b2 b3 b4, (Δ4 b1 b2 b3 b4)[j]? = some ⟨v1, E1 (s1 b1 b2 b3 b4), prm⟩) (hg : Gl X x := by rfl) (hdb : (x == ("__debug__" : Str)) = false := by decide) (st1 : starEach [e1, e2, e3, e4] X.env = (false, eval e1 X.env) :: starEach [e2, e3, e4] X.env := by rfl) (st2 : starEach [e2, e3, e4] X.env = (false, eval e2 X.env) :: starEach [e3, e4] X.env := by rfl) (st3 : starEach [e3, e4] X.env = (false, eval e3 X.env) :: starEach [e4] X.env := by rfl) (st4 : starEach [e4] X.env = (false, eval e4 X.env) :: starEach [] X.env := by rfl) (hpl : (backTo pos (starEach [e2, e3, e4] X.env)).any (·.1) = false := by rfl) :
    PE X (.Call (.Name x p) [e1, e2, e3, e4] [] pos) (tO true F Γ Δ T k (fun b => Rp b.2.1) fun b => (Δ4 b.1.1 b.1.2.1 b.1.2.2.1 b.1.2.2.2).set j ⟨v1, E1 b.2.2, prm⟩) :=
  (pe_call G hr hg hm hk hb .nil pass0 (pa_cons h1 (pa_cons (pe_ex fun b1 => h2 b1) (pa_cons (pe_ex fun b1 => pe_ex fun b2 => h3 b1 b2) (pa_cons (pe_ex fun b1 => pe_ex fun b2 => pe_ex fun b3 => h4 b1 b2 b3) pa_nil st4) st3) st2) st1) hdb st1 hpl).wk fun σ H Q ⟨ok, g, e, q⟩ => ⟨ok, g, e, fun b1 v1 H1 kb1 f1 ok1 hv1 => ⟨b1, ok1, g, kb1, fun b2 v2 H2 kb2 f2 ok2 hv2 => ⟨b1, b2, ok2, g, kb2, fun b3 v3 H3 kb3 f3 ok3 hv3 => ⟨b1, b2, b3, ok3, g, kb3, fun b4 v4 H4 kb4 f4 ok4 hv4 => by
    obtain ⟨r, er, kr⟩ := bind_some kb4
    have hv1 : v1 = _ := hv1
    subst hv1
    obtain ⟨G0, hcell, hnd, ret_f, ret_o⟩ := ok4.lend1 (hj b1 b2 b3 b4)
    refine ⟨_, v2, v3, v4, G0, s1 b1 b2 b3 b4, x2 b1 b2, x3 b1 b2 b3, x4 b1 b2 b3 b4, rfl, hcell, hnd, ((E2 _).mono (f3.fz.trans f4.fz) hv2), ((E3 _).mono f4.fz hv3), hv4, r, er, fun v H' hk => ?_⟩
    obtain ⟨ok', st⟩ := ret_o _ _ _ _ hk
    exact q ((b1, b2, b3, b4), r) v H' kr ((((f1.trans f2).trans f3).trans f4).trans st) (ok'.since (((f1.trans f2).trans f3).trans f4))⟩⟩⟩⟩
def Sp_OF_f {α1 α2 ρ : Type} (E1 : α1 → Od) (E2 : α2 → Pd) (Mf : α1 → α2 → Option (ρ × α1)) (Rp : ρ → Pd) : Sp := fun vs H Q _ => ∃ (v1 v2 : V) (G1 : List Addr) (a1 : α1) (a2 : α2), vs = [v1, v2] ∧ (E1 a1).pr G1 H v1 ∧ G1.Nodup ∧ (E2 a2).pr H v2 ∧ ∃ r, Mf a1 a2 = some r ∧ RF ⟨H, [G1]⟩ (fun r => [⟨v1, E1 r.2, some 0⟩]) (fun r => Rp r.1) r Q
theorem fn_OF_f {P : Program} {w : World} {K : PySem.W.Frag} {mg : Str → Option Value} {base : Heap} {x qual : Str} {params : Arguments} {body : List Stmt} {scope : Scope} {dvs : List V} {kws : List (Str × V)} {f : Addr} {fd : FuncData} {N ps : List Str} {k : Nat} {α1 α2 ρ : Type} {E1 : α1 → Od} {E2 : α2 → Pd} {Mf : α1 → α2 → Option (ρ × α1)} {Rp : ρ → Pd}
    (FD : FunD K x qual params body scope dvs kws f fd) (S : FnScope N ps scope) (hl : 2 = ps.length)
    (hb : ∀ (cdv : Value) (A : Around) (outer : List Env) (s : Shared) (H : Hp) (E : XK) (hr : Room k (A.deeper (envOfC qual scope s.heap.objs.size f cdv))) (v1 : V) (G1 : List Addr) (a1 : α1) (a2 : α2), PSs (cxOf CX0 P w K mg base N qual scope f cdv A outer s H E).nox body
      (tS ⟨H, [G1]⟩ (([pV v1, E2 a2] : List Pd).map some ++ List.replicate (N.length - 2) none) [⟨v1, E1 a1, some 0⟩] (fF (RF ⟨H, [G1]⟩ (fun r => [⟨v1, E1 r.2, some 0⟩]) (fun r => Rp r.1))) (Mf a1 a2))) : FnOk P w K mg base CX0 (k + 1) f fd ps (Sp_OF_f E1 E2 Mf Rp) := by
  refine FD.ok S (fun vs H Q E h => ?_) (fun cdv A outer s H vs Q E hr h => ?_)
  · obtain ⟨v1, v2, G1, a1, a2, rfl, _⟩ := h
    exact hl
  · obtain ⟨v1, v2, G1, a1, a2, rfl, p1, n1, p2, r, hM, fin⟩ := h
    refine ⟨_, PSs.nox (hb cdv A outer s H E hr v1 G1 a1 a2), ok_start (Δ := [⟨G1, v1, E1 a1, some 0⟩]) rfl (.cons rfl (.cons p2 (.nil))) ?_ ?_ ?_, r, hM, fin⟩
    · intro c hc; rw [List.mem_singleton.mp hc]; exact p1
    · rw [cellsOf_cons]; show (_ ++ []).Nodup; rw [List.append_nil]; exact n1
    · intro i c h; match i, h with | 0, h => cases h; rfl | _ + 1, h => cases h
theorem x_OF_f {X : Cx} {F : Fm} {Γ : Gm} {Δ : Δs} {γ : Type} {x : Str} {p pos : Pos} {e1 e2 : Expr} {f : Addr} {fd : FuncData} {ps : List Str} {kk : Nat} {α1 α2 ρ β1 β2 : Type} {E1 : α1 → Od} {E2 : α2 → Pd} {Mf : α1 → α2 → Option (ρ × α1)} {Rp : ρ → Pd} {T : Option γ} {Δ1 : β1 → Δs} {k1 : β1 → Option γ} {Δ2 : β1 → β2 → Δs} {x2 : β1 → β2 → α2} {v1 : V} {prm : Option Nat} {s1 : β1 → β2 → α1} {k : (β1 × β2) × (ρ × α1) → Option γ}
    (G : FnOk X.prog X.w X.K X.mg X.base CX0 kk f fd ps (Sp_OF_f E1 E2 Mf Rp)) (hr : Room kk X.A) (hm : X.mg x = some (.ref f)) (hk : PySem.W.keepIn X.K (.ref f) = true) (hb : Binds X.K fd ps []) (j : Nat) (h1 : PE X e1 (tE true F Γ Δ T (k1) (fun b1 => pV v1) (Δ1))) (h2 : ∀ b1, PE X e2 (tE true F Γ (Δ1 b1) (k1 b1) (fun b2 => (Mf (s1 b1 b2) (x2 b1 b2)).bind fun r => k ((b1, b2), r)) (fun b2 => E2 (x2 b1 b2)) (Δ2 b1)))
    (hj : ∀ b1 b2, (Δ2 b1 b2)[j]? = some ⟨v1, E1 (s1 b1 b2), prm⟩) (hg : Gl X x := by rfl) (hdb : (x == ("__debug__" : Str)) = false := by decide) (st1 : starEach [e1, e2] X.env = (false, eval e1 X.env) :: starEach [e2] X.env := by rfl) (st2 : starEach [e2] X.env = (false, eval e2 X.env) :: starEach [] X.env := by rfl) (hpl : (backTo pos (starEach [e2] X.env)).any (·.1) = false := by rfl) :
    PE X (.Call (.Name x p) [e1, e2] [] pos) (tE true F Γ Δ T k (fun b => Rp b.2.1) fun b => (Δ2 b.1.1 b.1.2).set j ⟨v1, E1 b.2.2, prm⟩) :=
  (pe_call G hr hg hm hk hb .nil pass0 (pa_cons h1 (pa_cons (pe_ex fun b1 => h2 b1) pa_nil st2) st1) hdb st1 hpl).wk fun σ H Q ⟨ok, g, e, q⟩ => ⟨ok, g, e, fun b1 v1 H1 kb1 f1 ok1 hv1 => ⟨b1, ok1, g, kb1, fun b2 v2 H2 kb2 f2 ok2 hv2 => by
    obtain ⟨r, er, kr⟩ := bind_some kb2
    have hv1 : v1 = _ := hv1
    subst hv1
    obtain ⟨G0, hcell, hnd, ret_f, ret_o⟩ := ok2.lend1 (hj b1 b2)
    refine ⟨_, v2, G0, s1 b1 b2, x2 b1 b2, rfl, hcell, hnd, hv2, r, er, fun v H' hk hv => ?_⟩
    obtain ⟨ok', st⟩ := ret_f _ _ hk
    exact q ((b1, b2), r) v H' kr ((f1.trans f2).trans st) ok' hv⟩⟩
def Sp_OF_o {α1 α2 ρ : Type} (E1 : α1 → Od) (E2 : α2 → Pd) (Mf : α1 → α2 → Option (ρ × α1)) (Rp : ρ → Od) : Sp := fun vs H Q _ => ∃ (v1 v2 : V) (G1 : List Addr) (a1 : α1) (a2 : α2), vs = [v1, v2] ∧ (E1 a1).pr G1 H v1 ∧ G1.Nodup ∧ (E2 a2).pr H v2 ∧ ∃ r, Mf a1 a2 = some r ∧ RO ⟨H, [G1]⟩ (fun r => [⟨v1, E1 r.2, some 0⟩]) (fun r => Rp r.1) r Q
theorem fn_OF_o {P : Program} {w : World} {K : PySem.W.Frag} {mg : Str → Option Value} {base : Heap} {x qual : Str} {params : Arguments} {body : List Stmt} {scope : Scope} {dvs : List V} {kws : List (Str × V)} {f : Addr} {fd : FuncData} {N ps : List Str} {k : Nat} {α1 α2 ρ : Type} {E1 : α1 → Od} {E2 : α2 → Pd} {Mf : α1 → α2 → Option (ρ × α1)} {Rp : ρ → Od}
    (FD : FunD K x qual params body scope dvs kws f fd) (S : FnScope N ps scope) (hl : 2 = ps.length)
    (hb : ∀ (cdv : Value) (A : Around) (outer : List Env) (s : Shared) (H : Hp) (E : XK) (hr : Room k (A.deeper (envOfC qual scope s.heap.objs.size f cdv))) (v1 : V) (G1 : List Addr) (a1 : α1) (a2 : α2), PSs (cxOf CX0 P w K mg base N qual scope f cdv A outer s H E).nox body
      (tS ⟨H, [G1]⟩ (([pV v1, E2 a2] : List Pd).map some ++ List.replicate (N.length - 2) none) [⟨v1, E1 a1, some 0⟩] (fF (RO ⟨H, [G1]⟩ (fun r => [⟨v1, E1 r.2, some 0⟩]) (fun r => Rp r.1))) (Mf a1 a2))) : FnOk P w K mg base CX0 (k + 1) f fd ps (Sp_OF_o E1 E2 Mf Rp) := by
  refine FD.ok S (fun vs H Q E h => ?_) (fun cdv A outer s H vs Q E hr h => ?_)
  · obtain ⟨v1, v2, G1, a1, a2, rfl, _⟩ := h
    exact hl
  · obtain ⟨v1, v2, G1, a1, a2, rfl, p1, n1, p2, r, hM, fin⟩ := h
    refine ⟨_, PSs.nox (hb cdv A outer s H E hr v1 G1 a1 a2), ok_start (Δ := [⟨G1, v1, E1 a1, some 0⟩]) rfl (.cons rfl (.cons p2 (.nil))) ?_ ?_ ?_, r, hM, fin⟩
    · intro c hc; rw [List.mem_singleton.mp hc]; exact p1
    · rw [cellsOf_cons]; show (_ ++ []).Nodup; rw [List.append_nil]; exact n1
    · intro i c h; match i, h with | 0, h => cases h; rfl | _ + 1, h => cases h
theorem x_OF_o {X : Cx} {F : Fm} {Γ : Gm} {Δ : Δs} {γ : Type} {x : Str} {p pos : Pos} {e1 e2 : Expr} {f : Addr} {fd : FuncData} {ps : List Str} {kk : Nat} {α1 α2 ρ β1 β2 : Type} {E1 : α1 → Od} {E2 : α2 → Pd} {Mf : α1 → α2 → Option (ρ × α1)} {Rp : ρ → Od} {T : Option γ} {Δ1 : β1 → Δs} {k1 : β1 → Option γ} {Δ2 : β1 → β2 → Δs} {x2 : β1 → β2 → α2} {v1 : V} {prm : Option Nat} {s1 : β1 → β2 → α1} {k : (β1 × β2) × (ρ × α1) → Option γ}
    (G : FnOk X.prog X.w X.K X.mg X.base CX0 kk f fd ps (Sp_OF_o E1 E2 Mf Rp)) (hr : Room kk X.A) (hm : X.mg x = some (.ref f)) (hk : PySem.W.keepIn X.K (.ref f) = true) (hb : Binds X.K fd ps []) (j : Nat) (h1 : PE X e1 (tE true F Γ Δ T (k1) (fun b1 => pV v1) (Δ1))) (h2 : ∀ b1, PE X e2 (tE true F Γ (Δ1 b1) (k1 b1) (fun b2 => (Mf (s1 b1 b2) (x2 b1 b2)).bind fun r => k ((b1, b2), r)) (fun b2 => E2 (x2 b1 b2)) (Δ2 b1)))
    (hj : ∀ b1 b2, (Δ2 b1 b2)[j]? = some ⟨v1, E1 (s1 b1 b2), prm⟩) (hg : Gl X x := by rfl) (hdb : (x == ("__debug__" : Str)) = false := by decide) (st1 : starEach [e1, e2] X.env = (false, eval e1 X.env) :: starEach [e2] X.env := by rfl) (st2 : starEach [e2] X.env = (false, eval e2 X.env) :: starEach [] X.env := by rfl) (hpl : (backTo pos (starEach [e2] X.env)).any (·.1) = false := by rfl) :
    PE X (.Call (.Name x p) [e1, e2] [] pos) (tO true F Γ Δ T k (fun b => Rp b.2.1) fun b => (Δ2 b.1.1 b.1.2).set j ⟨v1, E1 b.2.2, prm⟩) :=
  (pe_call G hr hg hm hk hb .nil pass0 (pa_cons h1 (pa_cons (pe_ex fun b1 => h2 b1) pa_nil st2) st1) hdb st1 hpl).wk fun σ H Q ⟨ok, g, e, q⟩ => ⟨ok, g, e, fun b1 v1 H1 kb1 f1 ok1 hv1 => ⟨b1, ok1, g, kb1, fun b2 v2 H2 kb2 f2 ok2 hv2 => by
    obtain ⟨r, er, kr⟩ := bind_some kb2
    have hv1 : v1 = _ := hv1
    subst hv1
    obtain ⟨G0, hcell, hnd, ret_f, ret_o⟩ := ok2.lend1 (hj b1 b2)
    refine ⟨_, v2, G0, s1 b1 b2, x2 b1 b2, rfl, hcell, hnd, hv2, r, er, fun v H' hk => ?_⟩
    obtain ⟨ok', st⟩ := ret_o _ _ _ _ hk
    exact q ((b1, b2), r) v H' kr ((f1.trans f2).trans st) (ok'.since (f1.trans f2))⟩⟩
theorem x_TF_f {X : Cx} {F : Fm} {Γ : Gm} {Δ : Δs} {γ : Type} {x : Str} {p pos : Pos} {e1 e2 : Expr} {f : Addr} {fd : FuncData} {ps : List Str} {kk : Nat} {α1 α2 ρ β1 β2 : Type} {E1 : α1 → Od} {E2 : α2 → Pd} {Mf : α1 → α2 → Option (ρ × α1)} {Rp : ρ → Pd} {T : Option γ} {Δ1 : β1 → Δs} {x1 : β1 → α1} {k1 : β1 → Option γ} {Δ2 : β1 → β2 → Δs} {x2 : β1 → β2 → α2} {k : (β1 × β2) × (ρ × α1) → Option γ}
    (G : FnOk X.prog X.w X.K X.mg X.base CX0 kk f fd ps (Sp_OF_f E1 E2 Mf Rp)) (hr : Room kk X.A) (hm : X.mg x = some (.ref f)) (hk : PySem.W.keepIn X.K (.ref f) = true) (hb : Binds X.K fd ps []) (h1 : PE X e1 (tO true F Γ Δ T (k1) (fun b1 => E1 (x1 b1)) Δ1)) (h2 : ∀ b1 v, PE X e2 (tE true F Γ (⟨v, E1 (x1 b1), none⟩ :: Δ1 b1) (k1 b1) (fun b2 => (Mf (x1 b1) (x2 b1 b2)).bind fun r => k ((b1, b2), r)) (fun b2 => E2 (x2 b1 b2)) (fun b2 => ⟨v, E1 (x1 b1), none⟩ :: Δ2 b1 b2)))
    (hg : Gl X x := by rfl) (hdb : (x == ("__debug__" : Str)) = false := by decide) (st1 : starEach [e1, e2] X.env = (false, eval e1 X.env) :: starEach [e2] X.env := by rfl) (st2 : starEach [e2] X.env = (false, eval e2 X.env) :: starEach [] X.env := by rfl) (hpl : (backTo pos (starEach [e2] X.env)).any (·.1) = false := by rfl) :
    PE X (.Call (.Name x p) [e1, e2] [] pos) (tE true F Γ Δ T k (fun b => Rp b.2.1) fun b => Δ2 b.1.1 b.1.2) :=
  (pe_call G hr hg hm hk hb .nil pass0 (pa_cons h1 (pa_cons (pe_ex fun b1 => pe_ex fun v => h2 b1 v) pa_nil st2) st1) hdb st1 hpl).wk fun σ H Q ⟨ok, g, e, q⟩ => ⟨ok, g, e, fun b1 v1 H1 kb1 f1 okn => ⟨b1, v1, okn.ok, g, kb1, fun b2 v2 H2 kb2 f2 ok2 hv2 => by
    obtain ⟨r, er, kr⟩ := bind_some kb2
    obtain ⟨G1, hcell, hnd, ret_f, ret_o⟩ := ok2.lend1 (j := 0) rfl
    refine ⟨v1, v2, G1, x1 b1, x2 b1 b2, rfl, hcell, hnd, hv2, r, er, fun v H' hk hv => ?_⟩
    obtain ⟨ok', st⟩ := ret_f _ _ hk
    exact q ((b1, b2), r) v H' kr ((f1.trans f2).trans st) (ok'.less (.cons _ (List.Sublist.refl _))) hv⟩⟩
theorem x_TF_o {X : Cx} {F : Fm} {Γ : Gm} {Δ : Δs} {γ : Type} {x : Str} {p pos : Pos} {e1 e2 : Expr} {f : Addr} {fd : FuncData} {ps : List Str} {kk : Nat} {α1 α2 ρ β1 β2 : Type} {E1 : α1 → Od} {E2 : α2 → Pd} {Mf : α1 → α2 → Option (ρ × α1)} {Rp : ρ → Od} {T : Option γ} {Δ1 : β1 → Δs} {x1 : β1 → α1} {k1 : β1 → Option γ} {Δ2 : β1 → β2 → Δs} {x2 : β1 → β2 → α2} {k : (β1 × β2) × (ρ × α1) → Option γ}
    (G : FnOk X.prog X.w X.K X.mg X.base CX0 kk f fd ps (Sp_OF_o E1 E2 Mf Rp)) (hr : Room kk X.A) (hm : X.mg x = some (.ref f)) (hk : PySem.W.keepIn X.K (.ref f) = true) (hb : Binds X.K fd ps []) (h1 : PE X e1 (tO true F Γ Δ T (k1) (fun b1 => E1 (x1 b1)) Δ1)) (h2 : ∀ b1 v, PE X e2 (tE true F Γ (⟨v, E1 (x1 b1), none⟩ :: Δ1 b1) (k1 b1) (fun b2 => (Mf (x1 b1) (x2 b1 b2)).bind fun r => k ((b1, b2), r)) (fun b2 => E2 (x2 b1 b2)) (fun b2 => ⟨v, E1 (x1 b1), none⟩ :: Δ2 b1 b2)))
    (hg : Gl X x := by rfl) (hdb : (x == ("__debug__" : Str)) = false := by decide) (st1 : starEach [e1, e2] X.env = (false, eval e1 X.env) :: starEach [e2] X.env := by rfl) (st2 : starEach [e2] X.env = (false, eval e2 X.env) :: starEach [] X.env := by rfl) (hpl : (backTo pos (starEach [e2] X.env)).any (·.1) = false := by rfl) :
    PE X (.Call (.Name x p) [e1, e2] [] pos) (tO true F Γ Δ T k (fun b => Rp b.2.1) fun b => Δ2 b.1.1 b.1.2) :=
  (pe_call G hr hg hm hk hb .nil pass0 (pa_cons h1 (pa_cons (pe_ex fun b1 => pe_ex fun v => h2 b1 v) pa_nil st2) st1) hdb st1 hpl).wk fun σ H Q ⟨ok, g, e, q⟩ => ⟨ok, g, e, fun b1 v1 H1 kb1 f1 okn => ⟨b1, v1, okn.ok, g, kb1, fun b2 v2 H2 kb2 f2 ok2 hv2 => by
    obtain ⟨r, er, kr⟩ := bind_some kb2
    obtain ⟨G1, hcell, hnd, ret_f, ret_o⟩ := ok2.lend1 (j := 0) rfl
    refine ⟨v1, v2, G1, x1 b1, x2 b1 b2, rfl, hcell, hnd, hv2, r, er, fun v H' hk => ?_⟩
    obtain ⟨ok', st⟩ := ret_o _ _ _ _ hk
    exact q ((b1, b2), r) v H' kr ((f1.trans f2).trans st) ((ok'.since (f1.trans f2)).less (.cons _ (List.Sublist.refl _)))⟩⟩
theorem x_KFFFF_o_2_ {X : Cx} {W : Bool} {F : Fm} {Γ : Gm} {Δ : Δs} {γ : Type} {x : Str} {p pos : Pos} {e1 e2 : Expr}  {f : Addr} {fd : FuncData} {ps : List Str} {kk : Nat} {α1 α2 α3 α4 ρ β1 β2 : Type} {E1 : α1 → Pd} {E2 : α2 → Pd} {E3 : α3 → Pd} {E4 : α4 → Pd} {Mf : α1 → α2 → α3 → α4 → Option ρ} {Rp : ρ → Od} {T : Option γ} {Δ1 : β1 → Δs} {x1 : β1 → α1} {k1 : β1 → Option γ} {Δ2 : β1 → β2 → Δs} {x2 : β1 → β2 → α2} {k : (β1 × β2) × ρ → Option γ}
    (G : FnOk X.prog X.w X.K X.mg X.base CX0 kk f fd ps (Sp_FFFF_o E1 E2 E3 E4 Mf Rp)) (hr : Room kk X.A) (hm : X.mg x = some (.ref f)) (hk : PySem.W.keepIn X.K (.ref f) = true) {ds : List Value} (hb : Binds X.K fd ps ds) (hds : Vals [.non, .non] ds) (d3 : α3) (hd3 : ∀ H, (E3 d3).pr H .non) (d4 : α4) (hd4 : ∀ H, (E4 d4).pr H .non) (h1 : PE X e1 (tE W F Γ Δ T (k1) (fun b1 => E1 (x1 b1)) (Δ1))) (h2 : ∀ b1, PE X e2 (tE W F Γ (Δ1 b1) (k1 b1) (fun b2 => (Mf (x1 b1) (x2 b1 b2) d3 d4).bind fun r => k ((b1, b2), r)) (fun b2 => E2 (x2 b1 b2)) (Δ2 b1)))
    (hg : Gl X x := by rfl) (hdb : (x == ("__debug__" : Str)) = false := by decide) (st1 : starEach [e1, e2] X.env = (false, eval e1 X.env) :: starEach [e2] X.env := by rfl) (st2 : starEach [e2] X.env = (false, eval e2 X.env) :: starEach [] X.env := by rfl) (hpl : (backTo pos (starEach [e2] X.env)).any (·.1) = false := by rfl) :
    PE X (.Call (.Name x p) [e1, e2] [] pos) (tO W F Γ Δ T k (fun b => Rp b.2) fun b => Δ2 b.1.1 b.1.2) :=
  (pe_call G hr hg hm hk hb hds pass0 (pa_cons h1 (pa_cons (pe_ex fun b1 => h2 b1) pa_nil st2) st1) hdb st1 hpl).wk fun σ H Q ⟨ok, g, e, q⟩ => ⟨ok, g, e, fun b1 v1 H1 kb1 f1 ok1 hv1 => ⟨b1, ok1, g, kb1, fun b2 v2 H2 kb2 f2 ok2 hv2 => by
    obtain ⟨r, er, kr⟩ := bind_some kb2
    refine ⟨v1, v2, .non, .non, x1 b1, x2 b1 b2, d3, d4, rfl, ((E1 _).mono f2.fz hv1), hv2, hd3 _, hd4 _, r, er, fun v H' hk => ?_⟩
    obtain ⟨ok', st⟩ := call_o0 (W := W) ok2 hk
    exact q ((b1, b2), r) v H' kr ((f1.trans f2).trans st) (ok'.since (f1.trans f2))⟩⟩
theorem x_KFFFF_o_2_3 {X : Cx} {W : Bool} {F : Fm} {Γ : Gm} {Δ : Δs} {γ : Type} {x : Str} {p pos : Pos} {e1 e2 e3 : Expr} {nm3 : Option Str} {kp3 : Pos} {f : Addr} {fd : FuncData} {ps : List Str} {kk : Nat} {α1 α2 α3 α4 ρ β1 β2 β3 : Type} {E1 : α1 → Pd} {E2 : α2 → Pd} {E3 : α3 → Pd} {E4 : α4 → Pd} {Mf : α1 → α2 → α3 → α4 → Option ρ} {Rp : ρ → Od} {T : Option γ} {Δ1 : β1 → Δs} {x1 : β1 → α1} {k1 : β1 → Option γ} {Δ2 : β1 → β2 → Δs} {x2 : β1 → β2 → α2} {k2 : β1 → β2 → Option γ} {Δ3 : β1 → β2 → β3 → Δs} {x3 : β1 → β2 → β3 → α3} {k : (β1 × β2 × β3) × ρ → Option γ}
    (G : FnOk X.prog X.w X.K X.mg X.base CX0 kk f fd ps (Sp_FFFF_o E1 E2 E3 E4 Mf Rp)) (hr : Room kk X.A) (hm : X.mg x = some (.ref f)) (hk : PySem.W.keepIn X.K (.ref f) = true) {ks : List Str} {gg : List Value → List Value → List Value} (hb : KBn X.K fd ps 2 ks gg (fun vs zs => vs ++ (zs.drop 0).take 1 ++ (([.non] : List V).drop 0).take 1)) (d4 : α4) (hd4 : ∀ H, (E4 d4).pr H .non) (h1 : PE X e1 (tE W F Γ Δ T (k1) (fun b1 => E1 (x1 b1)) (Δ1))) (h2 : ∀ b1, PE X e2 (tE W F Γ (Δ1 b1) (k1 b1) (k2 b1) (fun b2 => E2 (x2 b1 b2)) (Δ2 b1))) (h3 : ∀ b1 b2, PE X e3 (tE W F Γ (Δ2 b1 b2) (k2 b1 b2) (fun b3 => (Mf (x1 b1) (x2 b1 b2) (x3 b1 b2 b3) d4).bind fun r => k ((b1, b2, b3), r)) (fun b3 => E3 (x3 b1 b2 b3)) (Δ3 b1 b2)))
    (hg : Gl X x := by rfl) (hdb : (x == ("__debug__" : Str)) = false := by decide) (st1 : starEach [e1, e2] X.env = (false, eval e1 X.env) :: starEach [e2] X.env := by rfl) (st2 : starEach [e2] X.env = (false, eval e2 X.env) :: starEach [] X.env := by rfl) (hall : (backToKw pos (keywordEach [⟨nm3, e3, kp3⟩] X.env)).all (·.1.isSome) = true := by rfl) (hks : (backToKw pos (keywordEach [⟨nm3, e3, kp3⟩] X.env)).filterMap (·.1) = ks := by rfl) (hln : 1 = ks.length := by rfl) (hpl : ((backTo pos (starEach [e1, e2] X.env)).any (·.1) || (backToKw pos (keywordEach [⟨nm3, e3, kp3⟩] X.env)).any (·.1.isNone)) = false := by rfl) :
    PE X (.Call (.Name x p) [e1, e2] [⟨nm3, e3, kp3⟩] pos) (tO W F Γ Δ T k (fun b => Rp b.2) fun b => Δ3 b.1.1 b.1.2.1 b.1.2.2) :=
  (pe_callN G hr hg hm hk hb pass0 (pa_cons h1 (pa_cons (pe_ex fun b1 => h2 b1) pa_nil st2) st1) (pk_cons (pe_ex fun b1 => pe_ex fun b2 => h3 b1 b2) pk_nil) hall hks hdb st1 hpl).wk fun σ H Q ⟨ok, g, e, q⟩ => ⟨ok, g, e, fun b1 v1 H1 kb1 f1 ok1 hv1 => ⟨b1, ok1, g, kb1, fun b2 v2 H2 kb2 f2 ok2 hv2 => ⟨b1, b2, ok2, g, kb2, fun b3 v3 H3 kb3 f3 ok3 hv3 => by
    obtain ⟨r, er, kr⟩ := bind_some kb3
    refine ⟨rfl, hln, v1, v2, v3, .non, x1 b1, x2 b1 b2, x3 b1 b2 b3, d4, rfl, ((E1 _).mono (f2.fz.trans f3.fz) hv1), ((E2 _).mono f3.fz hv2), hv3, hd4 _, r, er, fun v H' hk => ?_⟩
    obtain ⟨ok', st⟩ := call_o0 (W := W) ok3 hk
    exact q ((b1, b2, b3), r) v H' kr (((f1.trans f2).trans f3).trans st) (ok'.since ((f1.trans f2).trans f3))⟩⟩⟩
theorem x_KFFFF_o_2_34 {X : Cx} {W : Bool} {F : Fm} {Γ : Gm} {Δ : Δs} {γ : Type} {x : Str} {p pos : Pos} {e1 e2 e3 e4 : Expr} {nm3 : Option Str} {kp3 : Pos} {nm4 : Option Str} {kp4 : Pos} {f : Addr} {fd : FuncData} {ps : List Str} {kk : Nat} {α1 α2 α3 α4 ρ β1 β2 β3 β4 : Type} {E1 : α1 → Pd} {E2 : α2 → Pd} {E3 : α3 → Pd} {E4 : α4 → Pd} {Mf : α1 → α2 → α3 → α4 → Option ρ} {Rp : ρ → Od} {T : Option γ} {Δ1 : β1 → Δs} {x1 : β1 → α1} {k1 : β1 → Option γ} {Δ2 : β1 → β2 → Δs} {x2 : β1 → β2 → α2} {k2 : β1 → β2 → Option γ} {Δ3 : β1 → β2 → β3 → Δs} {x3 : β1 → β2 → β3 → α3} {k3 : β1 → β2 → β3 → Option γ} {Δ4 : β1 → β2 → β3 → β4 → Δs} {x4 : β1 → β2 → β3 → β4 → α4} {k : (β1 × β2 × β3 × β4) × ρ → Option γ}
    (G : FnOk X.prog X.w X.K X.mg X.base CX0 kk f fd ps (Sp_FFFF_o E1 E2 E3 E4 Mf Rp)) (hr : Room kk X.A) (hm : X.mg x = some (.ref f)) (hk : PySem.W.keepIn X.K (.ref f) = true) {ks : List Str} {gg : List Value → List Value → List Value} (hb : KBn X.K fd ps 2 ks gg (fun vs zs => vs ++ (zs.drop 0).take 1 ++ (zs.drop 1).take 1))  (h1 : PE X e1 (tE W F Γ Δ T (k1) (fun b1 => E1 (x1 b1)) (Δ1))) (h2 : ∀ b1, PE X e2 (tE W F Γ (Δ1 b1) (k1 b1) (k2 b1) (fun b2 => E2 (x2 b1 b2)) (Δ2 b1))) (h3 : ∀ b1 b2, PE X e3 (tE W F Γ (Δ2 b1 b2) (k2 b1 b2) (k3 b1 b2) (fun b3 => E3 (x3 b1 b2 b3)) (Δ3 b1 b2))) (h4 : ∀ b1 b2 b3, PE X e4 (tE W F Γ (Δ3 b1 b2 b3) (k3 b1 b2 b3) (fun b4 => (Mf (x1 b1) (x2 b1 b2) (x3 b1 b2 b3) (x4 b1 b2 b3 b4)).bind fun r => k ((b1, b2, b3, b4), r)) (fun b4 => E4 (x4 b1 b2 b3 b4)) (Δ4 b1 b2 b3)))
    (hg : Gl X x := by rfl) (hdb : (x == ("__debug__" : Str)) = false := by decide) (st1 : starEach [e1, e2] X.env = (false, eval e1 X.env) :: starEach [e2] X.env := by rfl) (st2 : starEach [e2] X.env = (false, eval e2 X.env) :: starEach [] X.env := by rfl) (hall : (backToKw pos (keywordEach [⟨nm3, e3, kp3⟩, ⟨nm4, e4, kp4⟩] X.env)).all (·.1.isSome) = true := by rfl) (hks : (backToKw pos (keywordEach [⟨nm3, e3, kp3⟩, ⟨nm4, e4, kp4⟩] X.env)).filterMap (·.1) = ks := by rfl) (hln : 2 = ks.length := by rfl) (hpl : ((backTo pos (starEach [e1, e2] X.env)).any (·.1) || (backToKw pos (keywordEach [⟨nm3, e3, kp3⟩, ⟨nm4, e4, kp4⟩] X.env)).any (·.1.isNone)) = false := by rfl) :
    PE X (.Call (.Name x p) [e1, e2] [⟨nm3, e3, kp3⟩, ⟨nm4, e4, kp4⟩] pos) (tO W F Γ Δ T k (fun b => Rp b.2) fun b => Δ4 b.1.1 b.1.2.1 b.1.2.2.1 b.1.2.2.2) :=
  (pe_callN G hr hg hm hk hb pass0 (pa_cons h1 (pa_cons (pe_ex fun b1 => h2 b1) pa_nil st2) st1) (pk_cons (pe_ex fun b1 => pe_ex fun b2 => h3 b1 b2) (pk_cons (pe_ex fun b1 => pe_ex fun b2 => pe_ex fun b3 => h4 b1 b2 b3) pk_nil)) hall hks hdb st1 hpl).wk fun σ H Q ⟨ok, g, e, q⟩ => ⟨ok, g, e, fun b1 v1 H1 kb1 f1 ok1 hv1 => ⟨b1, ok1, g, kb1, fun b2 v2 H2 kb2 f2 ok2 hv2 => ⟨b1, b2, ok2, g, kb2, fun b3 v3 H3 kb3 f3 ok3 hv3 => ⟨b1, b2, b3, ok3, g, kb3, fun b4 v4 H4 kb4 f4 ok4 hv4 => by
    obtain ⟨r, er, kr⟩ := bind_some kb4
    refine ⟨rfl, hln, v1, v2, v3, v4, x1 b1, x2 b1 b2, x3 b1 b2 b3, x4 b1 b2 b3 b4, rfl, ((E1 _).mono ((f2.fz.trans f3.fz).trans f4.fz) hv1), ((E2 _).mono (f3.fz.trans f4.fz) hv2), ((E3 _).mono f4.fz hv3), hv4, r, er, fun v H' hk => ?_⟩
    obtain ⟨ok', st⟩ := call_o0 (W := W) ok4 hk
    exact q ((b1, b2, b3, b4), r) v H' kr ((((f1.trans f2).trans f3).trans f4).trans st) (ok'.since (((f1.trans f2).trans f3).trans f4))⟩⟩⟩⟩
theorem x_KFFFF_o_2_4 {X : Cx} {W : Bool} {F : Fm} {Γ : Gm} {Δ : Δs} {γ : Type} {x : Str} {p pos : Pos} {e1 e2 e4 : Expr} {nm4 : Option Str} {kp4 : Pos} {f : Addr} {fd : FuncData} {ps : List Str} {kk : Nat} {α1 α2 α3 α4 ρ β1 β2 β3 : Type} {E1 : α1 → Pd} {E2 : α2 → Pd} {E3 : α3 → Pd} {E4 : α4 → Pd} {Mf : α1 → α2 → α3 → α4 → Option ρ} {Rp : ρ → Od} {T : Option γ} {Δ1 : β1 → Δs} {x1 : β1 → α1} {k1 : β1 → Option γ} {Δ2 : β1 → β2 → Δs} {x2 : β1 → β2 → α2} {k2 : β1 → β2 → Option γ} {Δ3 : β1 → β2 → β3 → Δs} {x4 : β1 → β2 → β3 → α4} {k : (β1 × β2 × β3) × ρ → Option γ}
    (G : FnOk X.prog X.w X.K X.mg X.base CX0 kk f fd ps (Sp_FFFF_o E1 E2 E3 E4 Mf Rp)) (hr : Room kk X.A) (hm : X.mg x = some (.ref f)) (hk : PySem.W.keepIn X.K (.ref f) = true) {ks : List Str} {gg : List Value → List Value → List Value} (hb : KBn X.K fd ps 2 ks gg (fun vs zs => vs ++ (([.non] : List V).drop 0).take 1 ++ (zs.drop 0).take 1)) (d3 : α3) (hd3 : ∀ H, (E3 d3).pr H .non) (h1 : PE X e1 (tE W F Γ Δ T (k1) (fun b1 => E1 (x1 b1)) (Δ1))) (h2 : ∀ b1, PE X e2 (tE W F Γ (Δ1 b1) (k1 b1) (k2 b1) (fun b2 => E2 (x2 b1 b2)) (Δ2 b1))) (h3 : ∀ b1 b2, PE X e4 (tE W F Γ (Δ2 b1 b2) (k2 b1 b2) (fun b3 => (Mf (x1 b1) (x2 b1 b2) d3 (x4 b1 b2 b3)).bind fun r => k ((b1, b2, b3), r)) (fun b3 => E4 (x4 b1 b2 b3)) (Δ3 b1 b2)))
    (hg : Gl X x := by rfl) (hdb : (x == ("__debug__" : Str)) = false := by decide) (st1 : starEach [e1, e2] X.env = (false, eval e1 X.env) :: starEach [e2] X.env := by rfl) (st2 : starEach [e2] X.env = (false, eval e2 X.env) :: starEach [] X.env := by rfl) (hall : (backToKw pos (keywordEach [⟨nm4, e4, kp4⟩] X.env)).all (·.1.isSome) = true := by rfl) (hks : (backToKw pos (keywordEach [⟨nm4, e4, kp4⟩] X.env)).filterMap (·.1) = ks := by rfl) (hln : 1 = ks.length := by rfl) (hpl : ((backTo pos (starEach [e1, e2] X.env)).any (·.1) || (backToKw pos (keywordEach [⟨nm4, e4, kp4⟩] X.env)).any (·.1.isNone)) = false := by rfl) :
    PE X (.Call (.Name x p) [e1, e2] [⟨nm4, e4, kp4⟩] pos) (tO W F Γ Δ T k (fun b => Rp b.2) fun b => Δ3 b.1.1 b.1.2.1 b.1.2.2) :=
  (pe_callN G hr hg hm hk hb pass0 (pa_cons h1 (pa_cons (pe_ex fun b1 => h2 b1) pa_nil st2) st1) (pk_cons (pe_ex fun b1 => pe_ex fun b2 => h3 b1 b2) pk_nil) hall hks hdb st1 hpl).wk fun σ H Q ⟨ok, g, e, q⟩ => ⟨ok, g, e, fun b1 v1 H1 kb1 f1 ok1 hv1 => ⟨b1, ok1, g, kb1, fun b2 v2 H2 kb2 f2 ok2 hv2 => ⟨b1, b2, ok2, g, kb2, fun b3 v3 H3 kb3 f3 ok3 hv3 => by
    obtain ⟨r, er, kr⟩ := bind_some kb3
    refine ⟨rfl, hln, v1, v2, .non, v3, x1 b1, x2 b1 b2, d3, x4 b1 b2 b3, rfl, ((E1 _).mono (f2.fz.trans f3.fz) hv1), ((E2 _).mono f3.fz hv2), hd3 _, hv3, r, er, fun v H' hk => ?_⟩
    obtain ⟨ok', st⟩ := call_o0 (W := W) ok3 hk
    exact q ((b1, b2, b3), r) v H' kr (((f1.trans f2).trans f3).trans st) (ok'.since ((f1.trans f2).trans f3))⟩⟩⟩
end L3
end
section
set_option Elab.async false
set_option linter.all false
set_option maxRecDepth 100000
set_option maxHeartbeats 4000000
namespace L3
open PySem PySem.Spec PyProof.Rows L2
/-! ### what is walked -/
def WalkF {α : Type} (J : It) (Ex : α → Pd) (xs : List α) (H : Hp) : Prop := ∀ H', Fzs H H' → ∀ i, (i < xs.length → J.go i H') ∧ (xs.length ≤ i → J.stop i H') ∧ ∀ x v H'', xs[i]? = some x → J.yld i H' v H'' → Gr H' H'' ∧ (Ex x).pr H'' v
def tI {α β γ : Type} (W : Bool) (F : Fm) (Γ : Gm) (Δ : Δs) (T : Option γ) (k : β → Option γ) (Ex : α → Pd) (xs : β → List α) (Δ' : β → Δs) : TI := fun σ H R =>
  Ok F Γ Δ σ H ∧ ∃ g, T = some g ∧ ∀ b J H', k b = some g → St W H H' → Ok F Γ (Δ' b) σ H' → (xs b).length ≤ sizeLine → WalkF J Ex (xs b) H' → R J H'
def forS {α S : Type} : List α → S → (α → S → Option S) → Option S
  | [], s, _ => some s
  | x :: xs, s, f => (f x s).bind fun s' => forS xs s' f
def forL {α S ρ : Type} : List α → S → (α → S → Option (Bo S (Tm S ρ))) → Option (Bo S ρ)
  | [], s, _ => some (.nx s)
  | x :: xs, s, f => (f x s).bind fun o => match o with
    | .nx s' => forL xs s' f
    | .tm (.ct s') => forL xs s' f
    | .tm (.bk s') => some (.nx s')
    | .tm (.rt r) => some (.tm r)
def rngL (lo : Int) (n : Nat) : List Int := (List.range n).map fun (i : Nat) => lo + (i : Int)
def rg (n : Int) : Bool := decide (-(2 ^ 62) ≤ n) && decide (n ≤ 16777216)
def rg2 (m n : Int) : Bool := decide (-(2 ^ 62) ≤ m) && (decide (m < 2 ^ 62) && (decide (-(2 ^ 62) ≤ n) && (decide (n < 2 ^ 62) && decide (n - m ≤ 16777216))))
theorem rngL_len (lo : Int) (n : Nat) : (rngL lo n).length = n := by unfold rngL; rw [List.length_map, List.length_range]
section
variable {X : Cx} {W : Bool} {F : Fm} {Γ : Gm} {Δ : Δs} {γ : Type}
theorem _root_.L2.PI.wk {tg iter : Expr} {t t' : TI} (h : PI X tg iter t) (w : ∀ σ H R, t' σ H R → t σ H R) : PI X tg iter t' := ⟨fun pins s σ H R I q => h.run pins s σ H R I (w σ H R q)⟩
theorem i_list {tg l : Expr} {α β : Type} {T : Option γ} {k : β → Option γ} {Ex : α → Pd} {xs : β → List α} {Δ' : β → Δs} (he : PE X l (tE W F Γ Δ T k (fun b => pL Ex (xs b)) Δ')) : PI X tg l (tI W F Γ Δ T k Ex xs Δ') :=
  (pi_list he).wk fun σ H R ⟨ok, g, e, q⟩ => ⟨ok, g, e, fun b v H' kb f ok' ⟨a, o, vs, ev, h, z, p⟩ => ⟨a, ev, ⟨vs, .inl (.inr ⟨o, h⟩)⟩, q b _ H' kb f ok' z fun H2 f2 i => by
    have h2 : SqL X.K H2 a vs := .inl (.inr ⟨o, f2 _ _ trivial h⟩)
    refine ⟨fun hi => ?_, fun hi => ⟨vs, h2, by rw [← paired_len p]; exact hi⟩, fun x v H3 hx hy => ?_⟩
    · obtain ⟨u, hu, _⟩ := paired_at p (List.getElem?_eq_getElem hi)
      exact ⟨vs, u, h2, hu⟩
    · obtain ⟨e3, hy⟩ := hy
      obtain ⟨u, hu, pu⟩ := paired_at p hx
      have e4 := hy vs h2
      rw [hu] at e4
      cases e4
      subst e3
      exact ⟨Gr.refl _, (Ex x).mono f2 pu⟩⟩⟩
theorem i_tupL {tg l : Expr} {α β : Type} {T : Option γ} {k : β → Option γ} {Ex : α → Pd} {xs : β → List α} {Δ' : β → Δs} (he : PE X l (tE W F Γ Δ T k (fun b => pTL Ex (xs b)) Δ')) : PI X tg l (tI W F Γ Δ T k Ex xs Δ') :=
  (pi_tup he).wk fun σ H R ⟨ok, g, e, q⟩ => ⟨ok, g, e, fun b v H' kb f ok' ⟨a, vs, ev, h, z, p⟩ => ⟨a, ev, ⟨vs, .inl (.inl h)⟩, q b _ H' kb f ok' z fun H2 f2 i => by
    have h2 : SqT X.K H2 a vs := .inl (.inl (f2 _ _ trivial h))
    refine ⟨fun hi => ?_, fun hi => ⟨vs, h2, by rw [← paired_len p]; exact hi⟩, fun x v H3 hx hy => ?_⟩
    · obtain ⟨u, hu, _⟩ := paired_at p (List.getElem?_eq_getElem hi)
      exact ⟨vs, u, h2, hu⟩
    · obtain ⟨e3, hy⟩ := hy
      obtain ⟨u, hu, pu⟩ := paired_at p hx
      have e4 := hy vs h2
      rw [hu] at e4
      cases e4
      subst e3
      exact ⟨Gr.refl _, (Ex x).mono f2 pu⟩⟩⟩
theorem rng_walk {lo : Int} {n : Nat} {H : Hp} : WalkF (Itr lo n) pInt (rngL lo n) H := fun H2 f2 i => by
  have hl : (rngL lo n).length = n := by unfold rngL; rw [List.length_map, List.length_range]
  rw [hl]
  refine ⟨fun h => h, fun h => h, fun x v H3 hx hy => ?_⟩
  obtain ⟨e1, e2⟩ := hy
  subst e1
  refine ⟨Gr.refl _, ?_⟩
  unfold rngL at hx
  rw [List.getElem?_map] at hx
  cases hr : (List.range n)[i]? with
  | none => rw [hr] at hx; cases hx
  | some m =>
    rw [hr] at hx
    have hi : i < n := by
      have := (List.getElem?_eq_some_iff.mp hr).1
      rwa [List.length_range] at this
    rw [List.getElem?_range hi] at hr
    cases hr
    have hx : lo + (i : Int) = x := by simpa using hx
    rw [← hx]
    exact e2
theorem i_rng1 {tg a : Expr} {p pos : Pos} {β : Type} {T : Option γ} {k : β → Option γ} {n : β → Int} {Δ' : β → Δs} (hm : X.mg "range" = none) (he : PE X a (tE W F Γ Δ T (fun b => grd (rg (n b) = true) (k b)) (fun b => pInt (n b)) Δ')) (hg : Gl X "range" := by rfl)
    (hs : starEach [a] X.env = [(false, eval a X.env)] := by rfl) : PI X tg (.Call (.Name "range" p) [a] [] pos) (tI W F Γ Δ T k pInt (fun b => rngL 0 (n b).toNat) Δ') :=
  (pi_range1 hg hm (pa_cons he pa_nil hs) hs).wk fun σ H R ⟨ok, g, e, q⟩ => ⟨ok, g, e, fun b v H' kb f ok' hv => by
    obtain ⟨c, kb⟩ := grd_some kb
    obtain ⟨c1, c2⟩ := Bool.and_eq_true_iff.mp c
    have hv : v = .int (n b) := hv
    subst hv
    have c2 := of_decide_eq_true c2
    exact ⟨n b, rfl, of_decide_eq_true c1, by omega, q b _ H' kb f ok' (by rw [rngL_len]; have : sizeLine = 16777216 := rfl; omega) rng_walk⟩⟩
theorem i_rng2 {tg a b : Expr} {p pos : Pos} {β1 β2 : Type} {T : Option γ} {k1 : β1 → Option γ} {k : β1 × β2 → Option γ} {m : β1 → Int} {n : β1 → β2 → Int} {Δ1 : β1 → Δs} {Δ2 : β1 → β2 → Δs} (hm : X.mg "range" = none) (ha : PE X a (tE W F Γ Δ T k1 (fun b => pInt (m b)) Δ1))
    (hb : ∀ b1, PE X b (tE W F Γ (Δ1 b1) (k1 b1) (fun b2 => grd (rg2 (m b1) (n b1 b2) = true) (k (b1, b2))) (fun b2 => pInt (n b1 b2)) (Δ2 b1))) (hg : Gl X "range" := by rfl)
    (hs : starEach [a, b] X.env = [(false, eval a X.env), (false, eval b X.env)] := by rfl) (hs2 : starEach [b] X.env = [(false, eval b X.env)] := by rfl) (hs3 : starEach [a, b] X.env = (false, eval a X.env) :: starEach [b] X.env := by rfl) : PI X tg (.Call (.Name "range" p) [a, b] [] pos) (tI W F Γ Δ T k pInt (fun b => rngL (m b.1) (n b.1 b.2 - m b.1).toNat) fun b => Δ2 b.1 b.2) :=
  (pi_range2 hg hm (pa_cons ha (pa_cons (pe_ex hb) pa_nil hs2) hs3) hs hs2).wk fun σ H R ⟨ok, g, e, q⟩ => ⟨ok, g, e, fun b1 v1 H1 kb1 f1 ok1 hv1 => ⟨b1, ok1, g, kb1, fun b2 v2 H2 kb2 f2 ok2 hv2 => by
    obtain ⟨c, kb⟩ := grd_some kb2
    obtain ⟨c1, c⟩ := Bool.and_eq_true_iff.mp c
    obtain ⟨c2, c⟩ := Bool.and_eq_true_iff.mp c
    obtain ⟨c3, c⟩ := Bool.and_eq_true_iff.mp c
    obtain ⟨c4, c5⟩ := Bool.and_eq_true_iff.mp c
    have c5 := of_decide_eq_true c5
    have hv1 : v1 = .int (m b1) := hv1
    have hv2 : v2 = .int (n b1 b2) := hv2
    subst hv1 hv2
    exact ⟨m b1, n b1 b2, rfl, ⟨of_decide_eq_true c1, of_decide_eq_true c2, of_decide_eq_true c3, of_decide_eq_true c4⟩, q (b1, b2) _ H2 kb (f1.trans f2) ok2 (by rw [rngL_len]; have : sizeLine = 16777216 := rfl; dsimp only; omega) rng_walk⟩⟩⟩
/-- for k in d -/
theorem i_keys {tg l : Expr} {α β : Type} {T : Option γ} {k : β → Option γ} {Ex : α → Pd} {xs : β → List (Str × α)} {Δ' : β → Δs} (he : PE X l (tE W F Γ Δ T k (fun b => pD Ex (xs b)) Δ')) : PI X tg l (tI W F Γ Δ T k pStr (fun b => (xs b).map Prod.fst) Δ') :=
  (pi_keys he).wk fun σ H R ⟨ok, g, e, q⟩ => ⟨ok, g, e, fun b v H' kb f ok' ⟨a, o, kvs, ev, h, z, p⟩ => ⟨a, o, ev, .inl ⟨kvs, h, q b _ H' kb f ok' (by rw [List.length_map]; exact z) fun H2 f2 i => by
    have h2 : H2 a = some (.frz o (.dK kvs)) := f2 _ _ trivial h
    rw [List.length_map]
    refine ⟨fun hi => ⟨h2, by rw [← paired_len p]; exact hi⟩, fun hi => ⟨h2, by rw [← paired_len p]; exact hi⟩, fun x v H3 hx hy => ?_⟩
    obtain ⟨e3, ky, vv, ek, ev⟩ := hy
    rw [List.getElem?_map] at hx
    cases hr : (xs b)[i]? with
    | none => rw [hr] at hx; cases hx
    | some m =>
      rw [hr] at hx
      have hx : m.1 = x := by simpa using hx
      obtain ⟨u, hu, pu, _⟩ := paired_at p hr
      rw [ek] at hu
      cases hu
      subst e3
      refine ⟨Gr.refl _, ?_⟩
      have pu : ky = .inr m.1 := pu
      rw [ev, pu, hx]
      rfl⟩⟩⟩
theorem i_keysI {tg l : Expr} {α β : Type} {T : Option γ} {k : β → Option γ} {Ex : α → Pd} {xs : β → List (Int × α)} {Δ' : β → Δs} (he : PE X l (tE W F Γ Δ T k (fun b => pDI Ex (xs b)) Δ')) : PI X tg l (tI W F Γ Δ T k pInt (fun b => (xs b).map Prod.fst) Δ') :=
  (pi_keys he).wk fun σ H R ⟨ok, g, e, q⟩ => ⟨ok, g, e, fun b v H' kb f ok' ⟨a, o, kvs, ev, h, z, p⟩ => ⟨a, o, ev, .inl ⟨kvs, h, q b _ H' kb f ok' (by rw [List.length_map]; exact z) fun H2 f2 i => by
    have h2 : H2 a = some (.frz o (.dK kvs)) := f2 _ _ trivial h
    rw [List.length_map]
    refine ⟨fun hi => ⟨h2, by rw [← paired_len p]; exact hi⟩, fun hi => ⟨h2, by rw [← paired_len p]; exact hi⟩, fun x v H3 hx hy => ?_⟩
    obtain ⟨e3, ky, vv, ek, ev⟩ := hy
    rw [List.getElem?_map] at hx
    cases hr : (xs b)[i]? with
    | none => rw [hr] at hx; cases hx
    | some m =>
      rw [hr] at hx
      have hx : m.1 = x := by simpa using hx
      obtain ⟨u, hu, pu, _⟩ := paired_at p hr
      rw [ek] at hu
      cases hu
      subst e3
      refine ⟨Gr.refl _, ?_⟩
      have pu : ky = .inl m.1 := pu
      rw [ev, pu, hx]
      rfl⟩⟩⟩
/-! ### targets -/
def Tgt {α : Type} (g : TG) (Ex : α → Pd) (bd : Gm → α → Gm) : Prop := ∀ (F : Fm) (Γ : Gm) (Δ : Δs) (σ : SS) (H : Hp) (x : α) (v : V) (Q : SS → Hp → Prop), Ok F Γ Δ σ H → (Ex x).pr H v → (∀ σ', Ok F (bd Γ x) Δ σ' H → Q σ' H) → g v σ H Q
theorem tg_name {α : Type} {Ex : α → Pd} (i : Nat) : Tgt (gName i) Ex (fun Γ x => Γ.set i (some (Ex x))) := fun _ _ _ _ _ _ _ _ ok hv q => q _ (ok.set hv)
theorem tg_pair {α β : Type} {E1 : α → Pd} {E2 : β → Pd} {K : PySem.W.Frag} (i j : Nat) : Tgt (gTup K 2 (gCons (gName i) (gCons (gName j) gNil))) (pT2 E1 E2) (fun Γ x => (Γ.set i (some (E1 x.1))).set j (some (E2 x.2))) :=
  fun _ _ _ _ _ _ _ _ ok ⟨a, u, w, ev, h, p1, p2⟩ q => ⟨a, [u, w], ev, .inl (.inl h), rfl, u, [w], rfl, w, [], rfl, rfl, q _ ((ok.set p1).set p2)⟩
theorem tg_trip {α β δ : Type} {E1 : α → Pd} {E2 : β → Pd} {E3 : δ → Pd} {K : PySem.W.Frag} (i j l : Nat) : Tgt (gTup K 3 (gCons (gName i) (gCons (gName j) (gCons (gName l) gNil)))) (pT3 E1 E2 E3) (fun Γ x => ((Γ.set i (some (E1 x.1))).set j (some (E2 x.2.1))).set l (some (E3 x.2.2))) :=
  fun _ _ _ _ _ _ _ _ ok ⟨a, u, w, z, ev, h, p1, p2, p3⟩ q => ⟨a, [u, w, z], ev, .inl (.inl h), rfl, u, [w, z], rfl, w, [z], rfl, z, [], rfl, rfl, q _ (((ok.set p1).set p2).set p3)⟩
/-! ### for -/
variable {N : Fn γ} {rest : List Stmt}
theorem drop_cons {α : Type} {xs : List α} {i : Nat} (h : i < xs.length) : ∃ x, xs[i]? = some x ∧ xs.drop i = x :: xs.drop (i + 1) := ⟨xs[i], List.getElem?_eq_getElem h, List.drop_eq_getElem_cons h⟩
theorem s_for {tg iter : Expr} {body : List Stmt} {pos : Pos} {g : TG} {α β S ρ : Type} {T : Option γ} {Ex : α → Pd} {bd : Gm → α → Gm} {xs : β → List α} {Δ' : β → Δs} {f : β → α → S → Option (Bo S (Tm S ρ))} {k2 : β → S → Option γ} {ι : ρ → γ} {R : Rt ρ} (hp : PassesOwn (model X.prog X.w) X.A X.env X.xe) (C : β → S → Cxt) (s0 : β → S)
    (hi : PI X tg iter (tI true F Γ Δ T (fun b => (forL (xs b) (s0 b) (f b)).bind (boK (k2 b) ι)) Ex xs Δ')) (hg : PG X tg g) (ht : Tgt g Ex bd) (h0 : ∀ b, SubG (C b (s0 b)).1 Γ) (h0d : ∀ b, (C b (s0 b)).2.Sublist (Δ' b))
    (hb : ∀ b x s, PSs X body (tS F (bd (C b s).1 x) (C b s).2 (fB F (C b) (fT F (C b) R)) (f b x s))) (hr : ∀ b s, PSs X rest (tS F (C b s).1 (C b s).2 N (k2 b s))) (hN : ∀ H r D, N.fin H (ι r) D → R r D.rt) (hc : X.calm = true := by rfl) (hfs : ∀ x, foldedSetIterable iter X.env x = pure x := by intro _; rfl) :
    PSs X (.For tg iter body [] pos :: rest) (tS F Γ Δ N T) :=
  (pss_cons (ps_for hp hc hi hg (pss_ex fun b => pss_ex fun x => pss_ex fun s => hb b x s) hfs) (pss_ex fun b => pss_ex fun s => hr b s)).wk fun D σ H ⟨ok, gg, e, fin⟩ => ⟨ok, gg, e, fun b J H1 kb f1 ok1 _ wk => by
    obtain ⟨o, eo, ko⟩ := bind_some kb
    refine ⟨fun i m σ' H' => i + m = (xs b).length ∧ Fzs H1 H' ∧ ∃ s, Ok F (C b s).1 (C b s).2 σ' H' ∧ forL ((xs b).drop i) s (f b) = some o, ⟨(xs b).length, Nat.zero_add _, Fzs.refl _, s0 b, ok1.wk (h0 b) (h0d b), by rw [List.drop_zero]; exact eo⟩, fun i m σ2 H2 ⟨em, fz2, s, ok2, e2⟩ => ?_⟩
    by_cases hi : i < (xs b).length
    · obtain ⟨x, hx, ed⟩ := drop_cons hi
      rw [ed] at e2
      have e2 : (f b x s).bind _ = some o := e2
      obtain ⟨ob, eb, e2⟩ := bind_some e2
      refine .inr ⟨((wk H2 fz2) i).1 hi, fun σ3 H3 => (i + 1) + (m - 1) = (xs b).length ∧ Fzs H1 H3 ∧ ∃ s, Ok F (C b s).1 (C b s).2 σ3 H3 ∧ forL ((xs b).drop (i + 1)) s (f b) = some o, fun σ3 H3 h3 => ⟨m - 1, by omega, h3⟩, fun v H3 hy => ?_⟩
      obtain ⟨gr3, pv⟩ := ((wk H2 fz2) i).2.2 x v H3 hx hy
      refine ht F _ _ σ2 H3 x v _ (ok2.gr gr3) pv fun σ4 ok4 => ⟨b, x, s, ok4, ob, eb, ?_⟩
      cases ob with
      | nx s' => exact fun σ5 H5 f5 ok5 => ⟨by omega, (fz2.trans gr3.fzs).trans f5, s', ok5, e2⟩
      | tm t =>
        cases t with
        | ct s' => exact fun σ5 H5 f5 ok5 => ⟨by omega, (fz2.trans gr3.fzs).trans f5, s', ok5, e2⟩
        | bk s' =>
          have e2 : some (Bo.nx s') = some o := e2
          cases e2
          exact fun σ5 H5 f5 ok5 => ⟨b, s', ok5, gg, ko, N.mono fin (f1.fz.trans ((fz2.trans gr3.fzs).trans f5))⟩
        | rt r =>
          have e2 : some (Bo.tm r) = some o := e2
          cases e2
          have ko : some (ι r) = some gg := ko
          cases ko
          exact hN H r D fin
    · refine .inl ⟨((wk H2 fz2) i).2.1 (by omega), ?_⟩
      rw [List.drop_eq_nil_of_le (by omega)] at e2
      have e2 : some (Bo.nx s) = some o := e2
      cases e2
      exact ⟨b, s, ok2, gg, ko, N.mono fin (f1.fz.trans fz2)⟩⟩
/-- .. a body that only goes on -/
theorem s_forS {tg iter : Expr} {body : List Stmt} {pos : Pos} {g : TG} {α β S : Type} {T : Option γ} {Ex : α → Pd} {bd : Gm → α → Gm} {xs : β → List α} {Δ' : β → Δs} {f : β → α → S → Option S} {k2 : β → S → Option γ} (hp : PassesOwn (model X.prog X.w) X.A X.env X.xe) (C : β → S → Cxt) (s0 : β → S)
    (hi : PI X tg iter (tI true F Γ Δ T (fun b => (forS (xs b) (s0 b) (f b)).bind (k2 b)) Ex xs Δ')) (hg : PG X tg g) (ht : Tgt g Ex bd) (h0 : ∀ b, SubG (C b (s0 b)).1 Γ) (h0d : ∀ b, (C b (s0 b)).2.Sublist (Δ' b))
    (hb : ∀ b x s, PSs X body (tS F (bd (C b s).1 x) (C b s).2 (fN F (C b)) (f b x s))) (hr : ∀ b s, PSs X rest (tS F (C b s).1 (C b s).2 N (k2 b s))) (hc : X.calm = true := by rfl) (hfs : ∀ x, foldedSetIterable iter X.env x = pure x := by intro _; rfl) :
    PSs X (.For tg iter body [] pos :: rest) (tS F Γ Δ N T) :=
  (pss_cons (ps_for hp hc hi hg (pss_ex fun b => pss_ex fun x => pss_ex fun s => hb b x s) hfs) (pss_ex fun b => pss_ex fun s => hr b s)).wk fun D σ H ⟨ok, gg, e, fin⟩ => ⟨ok, gg, e, fun b J H1 kb f1 ok1 _ wk => by
    obtain ⟨o, eo, ko⟩ := bind_some kb
    refine ⟨fun i m σ' H' => i + m = (xs b).length ∧ Fzs H1 H' ∧ ∃ s, Ok F (C b s).1 (C b s).2 σ' H' ∧ forS ((xs b).drop i) s (f b) = some o, ⟨(xs b).length, Nat.zero_add _, Fzs.refl _, s0 b, ok1.wk (h0 b) (h0d b), by rw [List.drop_zero]; exact eo⟩, fun i m σ2 H2 ⟨em, fz2, s, ok2, e2⟩ => ?_⟩
    by_cases hi : i < (xs b).length
    · obtain ⟨x, hx, ed⟩ := drop_cons hi
      rw [ed] at e2
      have e2 : (f b x s).bind _ = some o := e2
      obtain ⟨s', eb, e2⟩ := bind_some e2
      refine .inr ⟨((wk H2 fz2) i).1 hi, fun σ3 H3 => (i + 1) + (m - 1) = (xs b).length ∧ Fzs H1 H3 ∧ ∃ s, Ok F (C b s).1 (C b s).2 σ3 H3 ∧ forS ((xs b).drop (i + 1)) s (f b) = some o, fun σ3 H3 h3 => ⟨m - 1, by omega, h3⟩, fun v H3 hy => ?_⟩
      obtain ⟨gr3, pv⟩ := ((wk H2 fz2) i).2.2 x v H3 hx hy
      exact ht F _ _ σ2 H3 x v _ (ok2.gr gr3) pv fun σ4 ok4 => ⟨b, x, s, ok4, s', eb, fun σ5 H5 f5 ok5 => ⟨by omega, (fz2.trans gr3.fzs).trans f5, s', ok5, e2⟩⟩
    · refine .inl ⟨((wk H2 fz2) i).2.1 (by omega), ?_⟩
      rw [List.drop_eq_nil_of_le (by omega)] at e2
      have e2 : s = o := Option.some.inj e2
      rw [e2] at ok2
      exact ⟨b, o, ok2, gg, ko, N.mono fin (f1.fz.trans fz2)⟩⟩
/-! ### while -/
def whL {S ρ : Type} : Nat → (S → Option (Option (Bo S (Tm S ρ)))) → S → Option (Bo S ρ)
  | 0, _, _ => none
  | n + 1, f, s => (f s).bind fun o => match o with
    | none => some (.nx s)
    | some (.nx s') => whL n f s'
    | some (.tm (.ct s')) => whL n f s'
    | some (.tm (.bk s')) => some (.nx s')
    | some (.tm (.rt r)) => some (.tm r)
theorem wfuelEx : ∃ n : Nat, n = 1000000000 := ⟨_, rfl⟩
noncomputable def wfuel : Nat := Classical.choose wfuelEx
theorem wfuel_eq : wfuel = 1000000000 := Classical.choose_spec wfuelEx
theorem s_while {ce : Expr} {body : List Stmt} {pos : Pos} {β S ρ : Type} {T : Option γ} {st : S → Option (Option (Bo S (Tm S ρ)))} {c : S → β → Bool} {f : S → β → Option (Bo S (Tm S ρ))} {k2 : S → Option γ} {ι : ρ → γ} {R : Rt ρ} (hp : PassesOwn (model X.prog X.w) X.A X.env X.xe) (C : S → Cxt) (s0 : S) (hT : T = (whL wfuel st s0).bind (boK k2 ι))
    (hcn : ∀ s, PT X ce (tTs true F (C s).1 (C s).2 (st s) (fun b => if c s b = true then (f s b).bind (fun o => some (some o)) else some none) (c s) fun _ => (C s).2)) (h0 : SubG (C s0).1 Γ) (h0d : (C s0).2.Sublist Δ)
    (hb : ∀ s b, PSs X body (tS F (C s).1 (C s).2 (fB F C (fT F C R)) (f s b))) (hr : ∀ s, PSs X rest (tS F (C s).1 (C s).2 N (k2 s))) (hN : ∀ H r D, N.fin H (ι r) D → R r D.rt) : PSs X (.While ce body [] pos :: rest) (tS F Γ Δ N T) :=
  (pss_cons (ps_while hp (pt_ex hcn) (pss_ex fun s => pss_ex fun b => hb s b)) (pss_ex hr)).wk fun D σ H ⟨ok, gg, e, fin⟩ => by
    rw [hT] at e
    obtain ⟨o, eo, ko⟩ := bind_some e
    refine ⟨fun m σ' H' => Fzs H H' ∧ ∃ s, Ok F (C s).1 (C s).2 σ' H' ∧ whL m st s = some o, ⟨wfuel, Fzs.refl _, s0, ok.wk h0 h0d, eo⟩, fun m σ2 H2 ⟨fz2, s, ok2, e2⟩ => ?_⟩
    cases m with
    | zero => cases e2
    | succ n =>
      have e2 : (st s).bind _ = some o := e2
      obtain ⟨w, ew, e2⟩ := bind_some e2
      refine ⟨s, ok2, w, ew, fun b H3 kb f3 ok3 => ?_⟩
      try dsimp only at kb
      cases hcb : c s b with
      | true =>
        rw [if_pos hcb] at kb
        obtain ⟨ob, eb, ew2⟩ := bind_some kb
        cases ew2
        refine iteT ⟨fun σ4 H4 => ∃ m', m' < n + 1 ∧ Fzs H H4 ∧ ∃ s, Ok F (C s).1 (C s).2 σ4 H4 ∧ whL m' st s = some o, fun σ4 H4 h => h, s, b, ok3, ob, eb, ?_⟩
        cases ob with
        | nx s' => exact fun σ5 H5 f5 ok5 => ⟨n, by omega, (fz2.trans f3.fz).trans f5, s', ok5, e2⟩
        | tm t =>
          cases t with
          | ct s' => exact fun σ5 H5 f5 ok5 => ⟨n, by omega, (fz2.trans f3.fz).trans f5, s', ok5, e2⟩
          | bk s' =>
            have e2 : some (Bo.nx s') = some o := e2
            cases e2
            exact fun σ5 H5 f5 ok5 => ⟨s', ok5, gg, ko, N.mono fin ((fz2.trans f3.fz).trans f5)⟩
          | rt r =>
            have e2 : some (Bo.tm r) = some o := e2
            cases e2
            have ko : some (ι r) = some gg := ko
            cases ko
            exact hN H r D fin
      | false =>
        rw [if_neg (by rw [hcb]; exact Bool.false_ne_true)] at kb
        cases kb
        have e2 : some (Bo.nx s) = some o := e2
        cases e2
        exact iteF ⟨s, ok3, gg, ko, N.mono fin (fz2.trans f3.fz)⟩
end
end L3
end
section
set_option Elab.async false
set_option linter.all false
set_option maxRecDepth 100000
set_option maxHeartbeats 4000000
namespace L3
open PySem PySem.Spec PyProof.Rows L2
/-! ### comprehensions -/
def compM {α δ S : Type} : List α → S → (α → S → Option (Option δ × S)) → Option (List δ × S)
  | [], s, _ => some ([], s)
  | x :: xs, s, f => (f x s).bind fun o => (compM xs o.2 f).bind fun r => some ((match o.1 with | none => r.1 | some y => y :: r.1), r.2)
theorem compM_len {α δ S : Type} {f : α → S → Option (Option δ × S)} : ∀ {xs : List α} {s : S} {r : List δ × S}, compM xs s f = some r → r.1.length ≤ xs.length
  | [], s, r, h => by cases h; exact Nat.le_refl _
  | x :: xs, s, r, h => by
    obtain ⟨o, _, h⟩ := bind_some (show (f x s).bind _ = some r from h)
    obtain ⟨q, hq, h⟩ := bind_some h
    have ih := compM_len hq
    cases h
    cases o.1 with
    | none => exact Nat.le_succ_of_le ih
    | some y => exact Nat.succ_le_succ ih
def wipeG (Γ : Gm) : List Nat → Gm
  | [] => Γ
  | v :: vs => (wipeG Γ vs).set v none
theorem wipeG_length (Γ : Gm) : ∀ vs : List Nat, (wipeG Γ vs).length = Γ.length
  | [] => rfl
  | v :: vs => by unfold wipeG; rw [List.length_set, wipeG_length Γ vs]
theorem wipe_get {Γ : Gm} {σ : SS} {p : Pd} {i : Nat} : ∀ {vs : List Nat}, (wipeG Γ vs)[i]? = some (some p) → Γ[i]? = some (some p) ∧ (wipe σ vs)[i]? = σ[i]?
  | [], h => ⟨h, rfl⟩
  | v :: vs, h => by
    unfold wipeG at h
    by_cases e : i = v
    · subst e
      by_cases l : i < (wipeG Γ vs).length
      · rw [List.getElem?_set_self l] at h; cases h
      · rw [List.getElem?_eq_none (by rw [List.length_set]; omega)] at h; cases h
    · rw [List.getElem?_set_ne (fun z => e z.symm)] at h
      obtain ⟨h1, h2⟩ := wipe_get h
      refine ⟨h1, ?_⟩
      unfold wipe
      rw [List.getElem?_set_ne (fun z => e z.symm)]
      exact h2
theorem Ok.wipe {F : Fm} {Γ : Gm} {Δ Δ' : Δs} {σ : SS} {H H' : Hp} (k : Ok F Γ Δ σ H) (f : Fzs H H') (h : Hk F Δ' H') (vs : List Nat) : Ok F (wipeG Γ vs) Δ' (L2.wipe σ vs) H' :=
  ⟨h, by rw [wipe_length, wipeG_length]; exact k.len, fun i p e => by
    obtain ⟨e1, e2⟩ := wipe_get (σ := σ) e
    obtain ⟨v, hs, hv⟩ := k.gam i p e1
    exact ⟨v, e2.trans hs, p.mono f hv⟩⟩
theorem Ok.re {F : Fm} {Γ : Gm} {Δ Δ' : Δs} {σ : SS} {H H' : Hp} (k : Ok F Γ Δ σ H) (f : Fzs H H') (h : Hk F Δ' H') : Ok F Γ Δ' σ H' :=
  ⟨h, k.len, fun i p e => by
    obtain ⟨v, hs, hv⟩ := k.gam i p e
    exact ⟨v, hs, p.mono f hv⟩⟩
theorem perm_lift {A B : Δs} (p : A.Perm B) : ∀ {Δ0 : List Cel}, Δ0.map Cel.fg = A → ∃ Δ1 : List Cel, Δ0.Perm Δ1 ∧ Δ1.map Cel.fg = B := by
  induction p with
  | nil => intro Δ0 e; exact ⟨Δ0, List.Perm.refl _, e⟩
  | cons x _ ih =>
    intro Δ0 e
    cases Δ0 with
    | nil => cases e
    | cons y r =>
      rw [List.map_cons] at e
      injection e with e1 e2
      obtain ⟨Δ1, q, e3⟩ := ih e2
      exact ⟨y :: Δ1, q.cons y, by rw [List.map_cons, e3, e1]⟩
  | swap x y l =>
    intro Δ0 e
    cases Δ0 with
    | nil => cases e
    | cons a r =>
      cases r with
      | nil => cases e
      | cons b r =>
        have e' : a.fg = y ∧ b.fg = x ∧ r.map Cel.fg = l := by simpa using e
        exact ⟨b :: a :: r, List.Perm.swap _ _ _, by rw [List.map_cons, List.map_cons, e'.1, e'.2.1, e'.2.2]⟩
  | trans _ _ ih1 ih2 =>
    intro Δ0 e
    obtain ⟨Δ1, q1, e1⟩ := ih1 e
    obtain ⟨Δ2, q2, e2⟩ := ih2 e1
    exact ⟨Δ2, q1.trans q2, e2⟩
theorem Hk.perm {F : Fm} {Δ Δ' : Δs} {H : Hp} (k : Hk F Δ H) (p : Δ.Perm Δ') : Hk F Δ' H := by
  obtain ⟨Δ0, e, k⟩ := k
  obtain ⟨Δ1, q, e1⟩ := perm_lift p e
  exact ⟨Δ1, e1, k.perm q⟩
theorem Hk.cell {F : Fm} {Δ : Δs} {H : Hp} {j : Nat} {c : Cell} (k : Hk F Δ H) (hj : Δ[j]? = some c) : ∃ G, c.d.pr G H c.v ∧ G.Nodup ∧ ∀ H' d', (∀ a o, a ∉ G → H a = some o → H' a = some o) → d'.pr G H' c.v → Hk F (Δ.set j { c with d := d' }) H' ∧ St true H H' := by
  have k2 : Ok F [] Δ [] H := ⟨k, rfl, fun i p e => by cases e⟩
  obtain ⟨G, p, nd, t⟩ := k2.cell hj
  exact ⟨G, p, nd, fun H' d' kp new => ⟨(t H' d' kp new).1.hk, (t H' d' kp new).2⟩⟩
theorem Hk.one {W : Bool} {F : Fm} {Δ : Δs} {H H0 : Hp} {D : Addr} {α : Type} {E : α → Pd} {xs : List α} {Γ : Gm} {σ : SS} (k : Hk F (⟨.ref D, oL E xs, none⟩ :: Δ) H) (n : Nm Γ σ H) (h0 : H0 D = none) : OkN W F Γ H0 (.ref D) (oL E xs) Δ σ H := by
  obtain ⟨Δ0, e, k⟩ := k
  cases Δ0 with
  | nil => cases e
  | cons y r =>
    obtain ⟨yG, yv, yd, yp⟩ := y
    have e' : (⟨yv, yd, yp⟩ : Cell) = ⟨.ref D, oL E xs, none⟩ ∧ r.map Cel.fg = Δ := by simpa [Cel.fg] using e
    obtain ⟨e1, e2⟩ := e'
    cases e1
    obtain ⟨p, vs, eG, ev, _⟩ := k.del _ List.mem_cons_self
    cases ev
    have eG : yG = [D] := eG
    subst eG
    exact ⟨r, [D], e2, k, fun _ a ha => by rw [List.mem_singleton.mp ha]; exact h0, n⟩
def TgtW {α : Type} (g : TG) (Ex : α → Pd) (bd : Gm → α → Gm) (vs : List Nat) : Prop := ∀ (F : Fm) (Γ : Gm) (Δ : Δs) (σ : SS) (H : Hp) (x : α) (v : V) (Q : SS → Hp → Prop), Ok F (wipeG Γ vs) Δ (L2.wipe σ vs) H → (Ex x).pr H v → (∀ σ', L2.wipe σ' vs = L2.wipe σ vs → Ok F (bd (wipeG Γ vs) x) Δ σ' H → Q σ' H) → g v (L2.wipe σ vs) H Q
theorem tw_name {α : Type} {Ex : α → Pd} (i : Nat) : TgtW (gName i) Ex (fun Γ x => Γ.set i (some (Ex x))) [i] := fun _ _ _ σ _ _ _ _ ok hv q => q _ (by
  show ((σ.set i none).set i _).set i none = σ.set i none
  rw [List.set_set, List.set_set]) (ok.set hv)
theorem tw_pair {α β : Type} {E1 : α → Pd} {E2 : β → Pd} {K : PySem.W.Frag} (i j : Nat) (hij : i ≠ j) : TgtW (gTup K 2 (gCons (gName i) (gCons (gName j) gNil))) (pT2 E1 E2) (fun Γ x => (Γ.set i (some (E1 x.1))).set j (some (E2 x.2))) [i, j] :=
  fun _ _ _ σ _ _ _ _ ok ⟨a, u, w, ev, h, p1, p2⟩ q => ⟨a, [u, w], ev, .inl (.inl h), rfl, u, [w], rfl, w, [], rfl, rfl, q _ (by
    show (((((σ.set j none).set i none).set i _).set j _).set j none).set i none = (σ.set j none).set i none
    rw [List.set_set, List.set_set, List.set_comm _ _ hij, List.set_set, List.set_set]) ((ok.set p1).set p2)⟩
section
variable {X : Cx} {W : Bool} {F : Fm} {Γ : Gm} {Δ : Δs} {γ : Type}
abbrev Blk (X : Cx) (scope : Scope) (P : Cx → Prop) : Prop := ∀ (s : Shared) (H : Hp) (C : Addr) (cl : List (Str × Addr)) (fp : List Addr), P (X.blk s H scope (compEnvC scope cl C X.env) fp)
section
variable {α β β2 β3 δ S : Type} {g : TG} {own : List (Str × Nat)} {T : Option γ} {k0 : β → Option γ} {k : β × (List δ × S) → Option γ} {out : β × (List δ × S) → List δ} {Ex : α → Pd} {Ee : δ → Pd} {bd : Gm → α → Gm} {xs : β → List α} {Δ1 : β → Δs} {C : β → S → Δs} {s0 : β → S} {f : β → α → S → Option (Option δ × S)}
    {c : β → α → S → β2 → Bool} {s2 : β → α → S → β2 → S} {T2 : β → α → S → β2 → Option (Option δ × S)} {y : β → α → S → β2 → β3 → δ} {s3 : β → α → S → β2 → β3 → S}
abbrev lcT (W : Bool) (F : Fm) (Γ : Gm) (own : List (Str × Nat)) (bd : Gm → α → Gm) (C : β → S → Δs) (f : β → α → S → Option (Option δ × S)) (c : β → α → S → β2 → Bool) (s2 : β → α → S → β2 → S) (T2 : β → α → S → β2 → Option (Option δ × S)) : TT := fun σ H Q => ∃ d b x s, tTs W F (bd (wipeG Γ (own.map (·.2))) x) (C b s ++ [d]) (f b x s) (fun b2 => if c b x s b2 = true then T2 b x s b2 else some (none, s2 b x s b2)) (c b x s) (fun b2 => C b (s2 b x s b2) ++ [d]) σ H Q
abbrev lcE (W : Bool) (F : Fm) (Γ : Gm) (own : List (Str × Nat)) (bd : Gm → α → Gm) (C : β → S → Δs) (s2 : β → α → S → β2 → S) (T2 : β → α → S → β2 → Option (Option δ × S)) (Ee : δ → Pd) (y : β → α → S → β2 → β3 → δ) (s3 : β → α → S → β2 → β3 → S) : TE := fun σ H Q => ∃ d b x s b2, tE W F (bd (wipeG Γ (own.map (·.2))) x) (C b (s2 b x s b2) ++ [d]) (T2 b x s b2) (fun b3 => some (some (y b x s b2 b3), s3 b x s b2 b3)) (fun b3 => Ee (y b x s b2 b3)) (fun b3 => C b (s3 b x s b2 b3) ++ [d]) σ H Q
theorem lc_imp (hrun : ∀ b g, k0 b = some g → ∃ r, compM (xs b) (s0 b) (f b) = some r ∧ k (b, r) = some g) (hout : ∀ b r, compM (xs b) (s0 b) (f b) = some r → out (b, r) = r.1) (ht : TgtW g Ex bd (own.map (·.2))) (h0 : ∀ b, Δ1 b = C b (s0 b)) :
    ∀ σ H Q, tO W F Γ Δ T k (fun b => oL Ee (out b)) (fun b => C b.1 b.2.2) σ H Q → tLc (tI W F Γ Δ T k0 Ex xs Δ1) g (lcT W F Γ own bd C f c s2 T2) (lcE W F Γ own bd C s2 T2 Ee y s3) (own.map (·.2)) σ H Q :=
  fun σ H Q ⟨ok0, gg, e, q⟩ => ⟨ok0, gg, e, fun b J H1 kb f1 ok1 zl wk D nD => by
    obtain ⟨⟨ys, sf⟩, er, kr⟩ := hrun b gg kb
    have grD : Gr H1 (upd H1 D (.lst [])) := Gr.new nD
    have hk0 : Hk F (C b (s0 b) ++ [⟨.ref D, oL Ee [], none⟩]) (upd H1 D (.lst [])) := by
      rw [← h0 b]
      exact (ok1.newL (W := true) (E := Ee) (xs := []) nD (Nat.zero_le _) .nil).1.ok.hk.perm (List.perm_append_singleton _ _).symm
    refine ⟨fun i m H' => i + m = (xs b).length ∧ St W H1 H' ∧ ∃ s acc ys', Hk F (C b s ++ [⟨.ref D, oL Ee acc, none⟩]) H' ∧ compM ((xs b).drop i) s (f b) = some (ys', sf) ∧ acc ++ ys' = ys, ⟨(xs b).length, Nat.zero_add _, grD.st, s0 b, [], ys, hk0, by rw [List.drop_zero]; exact er, rfl⟩, fun i m H2 ⟨em, st2, s, acc, ys', hk2, ec, ea⟩ => ?_⟩
    by_cases hi : i < (xs b).length
    · obtain ⟨x, hx, ed⟩ := drop_cons hi
      rw [ed] at ec
      obtain ⟨o, eo, ec⟩ := bind_some (show (f b x s).bind _ = some (ys', sf) from ec)
      obtain ⟨r, erc, ec⟩ := bind_some ec
      refine .inr ⟨((wk H2 st2.fz) i).1 hi, fun H' => (i + 1) + (m - 1) = (xs b).length ∧ St W H1 H' ∧ ∃ s acc ys', Hk F (C b s ++ [⟨.ref D, oL Ee acc, none⟩]) H' ∧ compM ((xs b).drop (i + 1)) s (f b) = some (ys', sf) ∧ acc ++ ys' = ys, fun H' h => ⟨m - 1, by omega, h⟩, fun v H3 hy => ?_⟩
      obtain ⟨gr3, pv⟩ := ((wk H2 st2.fz) i).2.2 x v H3 hx hy
      have st3 : St W H1 H3 := st2.trans gr3.st
      refine ht F Γ _ σ H3 x v _ (ok1.wipe st3.fz (hk2.gr gr3) _) pv fun σ4 ew ok4 => ⟨ew, ⟨.ref D, oL Ee acc, none⟩, b, x, s, ok4, o, eo, fun b2 H5 kb2 st5 ok5 => ?_⟩
      try dsimp only at kb2
      cases hcb : c b x s b2 with
      | false =>
        rw [if_neg (by rw [hcb]; exact Bool.false_ne_true)] at kb2
        cases kb2
        cases ec
        exact iteF ⟨by omega, st3.trans st5, s2 b x s b2, acc, r.1, ok5.hk, erc, ea⟩
      | true =>
        rw [if_pos hcb] at kb2
        refine iteT ⟨⟨.ref D, oL Ee acc, none⟩, b, x, s, b2, ok5, o, kb2, fun b3 w H6 kb3 st6 ok6 hw => ?_⟩
        cases kb3
        cases ec
        have hlast : (C b (s3 b x s b2 b3) ++ [⟨.ref D, oL Ee acc, none⟩])[(C b (s3 b x s b2 b3)).length]? = some ⟨.ref D, oL Ee acc, none⟩ := by rw [List.getElem?_append_right (Nat.le_refl _), Nat.sub_self]; rfl
        obtain ⟨G', ⟨D', vs, eG, eD, hD, zD, pD⟩, _, turn⟩ := ok6.hk.cell hlast
        cases eD
        subst eG
        have hlen : acc.length < sizeLine := by
          have l1 := compM_len erc
          have l2 : (acc ++ y b x s b2 b3 :: r.1).length = ys.length := congrArg List.length ea
          have l3 := compM_len er
          rw [List.length_append, List.length_cons] at l2
          have : ys.length ≤ (xs b).length := l3
          omega
        have fzm : Fzs H6 (upd H6 D (.lst (vs ++ [w]))) := Fzs.mut hD fun z => z
        obtain ⟨hk7, st7⟩ := turn (upd H6 D (.lst (vs ++ [w]))) (oL Ee (acc ++ [y b x s b2 b3])) (fun a o na e => by
          rw [upd_ne fun z => na (by rw [z]; exact List.mem_singleton.mpr rfl)]; exact e)
          ⟨D, vs ++ [w], rfl, rfl, upd_same, by rw [List.length_append, List.length_singleton]; omega, paired_app (paired_mono (fun x _ => (Ee x).mono fzm) pD) (.cons ((Ee _).mono fzm hw) .nil)⟩
        refine ⟨vs, hD, by rw [← paired_len pD]; exact hlen, by omega, ⟨((st3.fz.trans st5.fz).trans st6.fz).trans st7.fz, fun hw a o e => ?_, fun a o e => ?_⟩, s3 b x s b2 b3, acc ++ [y b x s b2 b3], r.1, ?_, erc, by rw [List.append_assoc]; exact ea⟩
        · rw [upd_ne (ne_of_none e nD)]
          exact ((st3.trans st5).trans st6).kp hw a o e
        · obtain ⟨u, eu⟩ := ((st3.trans st5).trans st6).dom a o e
          exact upd_dom _ _ a u eu
        · rw [List.set_append_right _ _ (Nat.le_refl _), Nat.sub_self] at hk7
          exact hk7
    · refine .inl ⟨((wk H2 st2.fz) i).2.1 (by omega), ?_⟩
      rw [List.drop_eq_nil_of_le (by omega)] at ec
      have ec : some (([] : List δ), s) = some (ys', sf) := ec
      cases ec
      rw [List.append_nil] at ea
      subst ea
      have hkf := hk2.perm (List.perm_append_singleton _ _)
      rw [show acc = out (b, (acc, _)) from (hout b _ er).symm] at hkf
      exact q (b, (acc, _)) _ H2 kr (f1.trans st2) (hkf.one (ok1.nm.mono st2.fz) (f1.back nD))⟩
theorem x_lc0 {elt tg iter : Expr} {ifs : List Expr} {scope : Scope} {pos : Pos} (nd : X.N.Nodup)
    (hi : PI X tg iter (tI W F Γ Δ T k0 Ex xs Δ1)) (hrun : ∀ b g, k0 b = some g → ∃ r, compM (xs b) (s0 b) (f b) = some r ∧ k (b, r) = some g) (hout : ∀ b r, compM (xs b) (s0 b) (f b) = some r → out (b, r) = r.1) (ok : BlkOk X.N X.env.scope scope own) (hg : Blk X scope fun Y => PG Y tg g) (ht : TgtW g Ex bd (own.map (·.2))) (h0 : ∀ b, Δ1 b = C b (s0 b))
    (hc : ∀ d, Blk X scope fun Y => ∀ b x s, PTs Y ifs (tTs W F (bd (wipeG Γ (own.map (·.2))) x) (C b s ++ [d]) (f b x s) (fun b2 => if c b x s b2 = true then T2 b x s b2 else some (none, s2 b x s b2)) (c b x s) fun b2 => C b (s2 b x s b2) ++ [d]))
    (he : ∀ d, Blk X scope fun Y => ∀ b x s b2, PE Y elt (tE W F (bd (wipeG Γ (own.map (·.2))) x) (C b (s2 b x s b2) ++ [d]) (T2 b x s b2) (fun b3 => some (some (y b x s b2 b3), s3 b x s b2 b3)) (fun b3 => Ee (y b x s b2 b3)) fun b3 => C b (s3 b x s b2 b3) ++ [d]))
    (hcm : X.calm = true := by rfl) (hs : ∀ x, foldedSetIterable iter X.env x = pure x := by intro _; rfl) :
    PE X (.ListComp elt [⟨tg, iter, ifs, 0⟩] scope pos) (tO W F Γ Δ T k (fun b => oL Ee (out b)) fun b => C b.1 b.2.2) :=
  (pe_lc hcm nd hi ok hg (tt := lcT W F Γ own bd C f c s2 T2) (fun s H Cc cl fp => ⟨fun pins s' σ H Q I ⟨d, b, x, s'', h⟩ => (hc d s _ Cc cl fp b x s'').run pins s' σ H Q I h⟩) (te := lcE W F Γ own bd C s2 T2 Ee y s3) (fun s H Cc cl fp => ⟨fun pins s' σ H Q I ⟨d, b, x, s'', b2, h⟩ => (he d s _ Cc cl fp b x s'' b2).run pins s' σ H Q I h⟩) hs).wk (lc_imp hrun hout ht h0)
/-- name = [..] -/
theorem a_lc0 {elt tg iter : Expr} {ifs : List Expr} {scope : Scope} {pos py spos : Pos} {i : Nat} {yv : Str} (nd : X.N.Nodup)
    (hi : PI X tg iter (tI W F Γ Δ T k0 Ex xs Δ1)) (hrun : ∀ b g, k0 b = some g → ∃ r, compM (xs b) (s0 b) (f b) = some r ∧ k (b, r) = some g) (hout : ∀ b r, compM (xs b) (s0 b) (f b) = some r → out (b, r) = r.1) (ok : BlkOk X.N X.env.scope scope own) (hg : Blk X scope fun Y => PG Y tg g) (ht : TgtW g Ex bd (own.map (·.2))) (h0 : ∀ b, Δ1 b = C b (s0 b))
    (hc : ∀ d, Blk X scope fun Y => ∀ b x s, PTs Y ifs (tTs W F (bd (wipeG Γ (own.map (·.2))) x) (C b s ++ [d]) (f b x s) (fun b2 => if c b x s b2 = true then T2 b x s b2 else some (none, s2 b x s b2)) (c b x s) fun b2 => C b (s2 b x s b2) ++ [d]))
    (he : ∀ d, Blk X scope fun Y => ∀ b x s b2, PE Y elt (tE W F (bd (wipeG Γ (own.map (·.2))) x) (C b (s2 b x s b2) ++ [d]) (T2 b x s b2) (fun b3 => some (some (y b x s b2 b3), s3 b x s b2 b3)) (fun b3 => Ee (y b x s b2 b3)) fun b3 => C b (s3 b x s b2 b3) ++ [d]))
    (hsw : swapsWith (.ListComp elt [⟨tg, iter, ifs, 0⟩] scope pos) (some (.Name yv py)) spos.line X.env = pure true) (hy : X.N[i]? = some yv := by rfl) (hyl : X.env.scope.names.lookup yv = some .local := by rfl) (hcm : X.calm = true := by rfl) (hs : ∀ x, foldedSetIterable iter X.env x = pure x := by intro _; rfl) :
    PS X (.Assign [.Name yv py] (.ListComp elt [⟨tg, iter, ifs, 0⟩] scope pos) spos) (tAsg (tO W F Γ Δ T k (fun b => oL Ee (out b)) fun b => C b.1 b.2.2) (gName i)) :=
  (ps_setLc hcm nd hy hyl hsw hi ok hg (tt := lcT W F Γ own bd C f c s2 T2) (fun s H Cc cl fp => ⟨fun pins s' σ H Q I ⟨d, b, x, s'', h⟩ => (hc d s _ Cc cl fp b x s'').run pins s' σ H Q I h⟩) (te := lcE W F Γ own bd C s2 T2 Ee y s3) (fun s H Cc cl fp => ⟨fun pins s' σ H Q I ⟨d, b, x, s'', b2, h⟩ => (he d s _ Cc cl fp b x s'' b2).run pins s' σ H Q I h⟩) hs).wk fun D σ H h => lc_imp hrun hout ht h0 σ H _ h
end
theorem o_drop {β ρ : Type} {e : Expr} {T : Option γ} {k : β → Option γ} {D : β → Od} {Δ' : β → Δs} (h : PE X e (tO W F Γ Δ T (fun b : β × ρ => k b.1) (fun b => D b.1) fun b => Δ' b.1)) : PE X e (tO W F Γ Δ T k D Δ') :=
  h.wk fun σ H Q ⟨ok, g, e, q⟩ => ⟨ok, g, e, fun b v H' kb f ok' => q b.1 v H' kb f ok'⟩
/-- .. with what a turn changes -/
theorem x_lc {elt tg iter : Expr} {ifs : List Expr} {scope : Scope} {own : List (Str × Nat)} {pos : Pos} {g : TG} {α β β2 β3 δ S : Type} {T : Option γ} {k : β × (List δ × S) → Option γ} {Ex : α → Pd} {Ee : δ → Pd} {bd : Gm → α → Gm} {xs : β → List α} {Δ1 : β → Δs} {C : β → S → Δs} {s0 : β → S} {f : β → α → S → Option (Option δ × S)}
    {c : β → α → S → β2 → Bool} {s2 : β → α → S → β2 → S} {T2 : β → α → S → β2 → Option (Option δ × S)} {y : β → α → S → β2 → β3 → δ} {s3 : β → α → S → β2 → β3 → S} (nd : X.N.Nodup)
    (hi : PI X tg iter (tI W F Γ Δ T (fun b => (compM (xs b) (s0 b) (f b)).bind fun r => k (b, r)) Ex xs Δ1)) (ok : BlkOk X.N X.env.scope scope own) (hg : Blk X scope fun Y => PG Y tg g) (ht : TgtW g Ex bd (own.map (·.2))) (h0 : ∀ b, Δ1 b = C b (s0 b))
    (hc : ∀ d, Blk X scope fun Y => ∀ b x s, PTs Y ifs (tTs W F (bd (wipeG Γ (own.map (·.2))) x) (C b s ++ [d]) (f b x s) (fun b2 => if c b x s b2 = true then T2 b x s b2 else some (none, s2 b x s b2)) (c b x s) fun b2 => C b (s2 b x s b2) ++ [d]))
    (he : ∀ d, Blk X scope fun Y => ∀ b x s b2, PE Y elt (tE W F (bd (wipeG Γ (own.map (·.2))) x) (C b (s2 b x s b2) ++ [d]) (T2 b x s b2) (fun b3 => some (some (y b x s b2 b3), s3 b x s b2 b3)) (fun b3 => Ee (y b x s b2 b3)) fun b3 => C b (s3 b x s b2 b3) ++ [d]))
    (hcm : X.calm = true := by rfl) (hs : ∀ x, foldedSetIterable iter X.env x = pure x := by intro _; rfl) :
    PE X (.ListComp elt [⟨tg, iter, ifs, 0⟩] scope pos) (tO W F Γ Δ T k (fun b => oL Ee b.2.1) fun b => C b.1 b.2.2) :=
  x_lc0 (out := fun b => b.2.1) nd hi (fun _ _ h => bind_some h) (fun _ _ _ => rfl) ok hg ht h0 hc he hcm hs
theorem a_lc {elt tg iter : Expr} {ifs : List Expr} {scope : Scope} {own : List (Str × Nat)} {pos py spos : Pos} {i : Nat} {yv : Str} {g : TG} {α β β2 β3 δ S : Type} {T : Option γ} {k : β × (List δ × S) → Option γ} {Ex : α → Pd} {Ee : δ → Pd} {bd : Gm → α → Gm} {xs : β → List α} {Δ1 : β → Δs} {C : β → S → Δs} {s0 : β → S} {f : β → α → S → Option (Option δ × S)}
    {c : β → α → S → β2 → Bool} {s2 : β → α → S → β2 → S} {T2 : β → α → S → β2 → Option (Option δ × S)} {y : β → α → S → β2 → β3 → δ} {s3 : β → α → S → β2 → β3 → S} (nd : X.N.Nodup)
    (hi : PI X tg iter (tI W F Γ Δ T (fun b => (compM (xs b) (s0 b) (f b)).bind fun r => k (b, r)) Ex xs Δ1)) (ok : BlkOk X.N X.env.scope scope own) (hg : Blk X scope fun Y => PG Y tg g) (ht : TgtW g Ex bd (own.map (·.2))) (h0 : ∀ b, Δ1 b = C b (s0 b))
    (hc : ∀ d, Blk X scope fun Y => ∀ b x s, PTs Y ifs (tTs W F (bd (wipeG Γ (own.map (·.2))) x) (C b s ++ [d]) (f b x s) (fun b2 => if c b x s b2 = true then T2 b x s b2 else some (none, s2 b x s b2)) (c b x s) fun b2 => C b (s2 b x s b2) ++ [d]))
    (he : ∀ d, Blk X scope fun Y => ∀ b x s b2, PE Y elt (tE W F (bd (wipeG Γ (own.map (·.2))) x) (C b (s2 b x s b2) ++ [d]) (T2 b x s b2) (fun b3 => some (some (y b x s b2 b3), s3 b x s b2 b3)) (fun b3 => Ee (y b x s b2 b3)) fun b3 => C b (s3 b x s b2 b3) ++ [d]))
    (hsw : swapsWith (.ListComp elt [⟨tg, iter, ifs, 0⟩] scope pos) (some (.Name yv py)) spos.line X.env = pure true) (hy : X.N[i]? = some yv := by rfl) (hyl : X.env.scope.names.lookup yv = some .local := by rfl) (hcm : X.calm = true := by rfl) (hs : ∀ x, foldedSetIterable iter X.env x = pure x := by intro _; rfl) :
    PS X (.Assign [.Name yv py] (.ListComp elt [⟨tg, iter, ifs, 0⟩] scope pos) spos) (tAsg (tO W F Γ Δ T k (fun b => oL Ee b.2.1) fun b => C b.1 b.2.2) (gName i)) :=
  a_lc0 (out := fun b => b.2.1) nd hi (fun _ _ h => bind_some h) (fun _ _ _ => rfl) ok hg ht h0 hc he hsw hy hyl hcm hs
theorem compM_tot {α δ : Type} {c : α → Bool} {y : α → δ} : ∀ xs : List α, compM xs () (fun x _ => if c x = true then some (some (y x), ()) else some (none, ())) = some ((xs.filter c).map y, ())
  | [] => rfl
  | x :: xs => by
    show ((if c x = true then _ else _ : Option (Option δ × Unit)).bind _) = _
    cases h : c x with
    | true =>
      rw [if_pos rfl]
      show ((compM xs () _).bind _) = _
      rw [compM_tot xs, List.filter_cons_of_pos h]
      rfl
    | false =>
      rw [if_neg Bool.false_ne_true]
      show ((compM xs () _).bind _) = _
      rw [compM_tot xs, List.filter_cons_of_neg (by rw [h]; exact Bool.false_ne_true)]
      rfl
/-- .. nothing fails, nothing changes -/
theorem x_lcT {elt tg iter : Expr} {ifs : List Expr} {scope : Scope} {own : List (Str × Nat)} {pos : Pos} {g : TG} {α β δ : Type} {T : Option γ} {k : β → Option γ} {Ex : α → Pd} {Ee : δ → Pd} {bd : Gm → α → Gm} {xs : β → List α} {Δ1 : β → Δs}
    {c : β → α → Bool} {y : β → α → δ} (nd : X.N.Nodup) (hi : PI X tg iter (tI W F Γ Δ T k Ex xs Δ1)) (ok : BlkOk X.N X.env.scope scope own) (hg : Blk X scope fun Y => PG Y tg g) (ht : TgtW g Ex bd (own.map (·.2)))
    (hc : ∀ d, Blk X scope fun Y => ∀ b x, ∀ (γ : Type) (T' : Option γ), PTs Y ifs (tTs W F (bd (wipeG Γ (own.map (·.2))) x) (Δ1 b ++ [d]) T' (fun _ : Unit => T') (fun _ => c b x) fun _ => Δ1 b ++ [d]))
    (he : ∀ d, Blk X scope fun Y => ∀ b x, ∀ (γ : Type) (T' : Option γ), PE Y elt (tE W F (bd (wipeG Γ (own.map (·.2))) x) (Δ1 b ++ [d]) T' (fun _ : Unit => T') (fun _ => Ee (y b x)) fun _ => Δ1 b ++ [d]))
    (hcm : X.calm = true := by rfl) (hs : ∀ x, foldedSetIterable iter X.env x = pure x := by intro _; rfl) :
    PE X (.ListComp elt [⟨tg, iter, ifs, 0⟩] scope pos) (tO W F Γ Δ T k (fun b => oL Ee (((xs b).filter (c b)).map (y b))) Δ1) :=
  o_drop (ρ := List δ × Unit) (x_lc0 (S := Unit) (β2 := Unit) (β3 := Unit) (k := fun b => k b.1) (out := fun b => ((xs b.1).filter (c b.1)).map (y b.1)) (C := fun b _ => Δ1 b) (s0 := fun _ => ()) (c := fun b x _ _ => c b x) (s2 := fun _ _ _ _ => ()) (s3 := fun _ _ _ _ _ => ()) (y := fun b x _ _ _ => y b x)
    (T2 := fun b x _ _ => some (some (y b x), ())) (f := fun b x _ => if c b x = true then some (some (y b x), ()) else some (none, ())) nd hi (fun b g h => ⟨_, compM_tot _, h⟩) (fun b r h => by rw [compM_tot] at h; cases h; rfl) ok hg ht (fun _ => rfl) (fun d s H C cl fp b x _ => hc d s H C cl fp b x _ _) (fun d s H C cl fp b x _ _ => he d s H C cl fp b x _ _) hcm hs)
theorem s_drop {β ρ : Type} {st : Stmt} {i : Nat} {T : Option γ} {k : β → Option γ} {D : β → Od} {Δ' : β → Δs} (h : PS X st (tAsg (tO W F Γ Δ T (fun b : β × ρ => k b.1) (fun b => D b.1) fun b => Δ' b.1) (gName i))) : PS X st (tAsg (tO W F Γ Δ T k D Δ') (gName i)) :=
  h.wk fun D σ H ⟨ok, g, e, q⟩ => ⟨ok, g, e, fun b v H' kb f ok' => q b.1 v H' kb f ok'⟩
theorem a_lcT {elt tg iter : Expr} {ifs : List Expr} {scope : Scope} {own : List (Str × Nat)} {pos py spos : Pos} {i : Nat} {yv : Str} {g : TG} {α β δ : Type} {T : Option γ} {k : β → Option γ} {Ex : α → Pd} {Ee : δ → Pd} {bd : Gm → α → Gm} {xs : β → List α} {Δ1 : β → Δs}
    {c : β → α → Bool} {y : β → α → δ} (nd : X.N.Nodup) (hi : PI X tg iter (tI W F Γ Δ T k Ex xs Δ1)) (ok : BlkOk X.N X.env.scope scope own) (hg : Blk X scope fun Y => PG Y tg g) (ht : TgtW g Ex bd (own.map (·.2)))
    (hc : ∀ d, Blk X scope fun Y => ∀ b x, ∀ (γ : Type) (T' : Option γ), PTs Y ifs (tTs W F (bd (wipeG Γ (own.map (·.2))) x) (Δ1 b ++ [d]) T' (fun _ : Unit => T') (fun _ => c b x) fun _ => Δ1 b ++ [d]))
    (he : ∀ d, Blk X scope fun Y => ∀ b x, ∀ (γ : Type) (T' : Option γ), PE Y elt (tE W F (bd (wipeG Γ (own.map (·.2))) x) (Δ1 b ++ [d]) T' (fun _ : Unit => T') (fun _ => Ee (y b x)) fun _ => Δ1 b ++ [d]))
    (hsw : swapsWith (.ListComp elt [⟨tg, iter, ifs, 0⟩] scope pos) (some (.Name yv py)) spos.line X.env = pure true) (hy : X.N[i]? = some yv := by rfl) (hyl : X.env.scope.names.lookup yv = some .local := by rfl) (hcm : X.calm = true := by rfl) (hs : ∀ x, foldedSetIterable iter X.env x = pure x := by intro _; rfl) :
    PS X (.Assign [.Name yv py] (.ListComp elt [⟨tg, iter, ifs, 0⟩] scope pos) spos) (tAsg (tO W F Γ Δ T k (fun b => oL Ee (((xs b).filter (c b)).map (y b))) Δ1) (gName i)) :=
  s_drop (ρ := List δ × Unit) (a_lc0 (S := Unit) (β2 := Unit) (β3 := Unit) (k := fun b => k b.1) (out := fun b => ((xs b.1).filter (c b.1)).map (y b.1)) (C := fun b _ => Δ1 b) (s0 := fun _ => ()) (c := fun b x _ _ => c b x) (s2 := fun _ _ _ _ => ()) (s3 := fun _ _ _ _ _ => ()) (y := fun b x _ _ _ => y b x)
    (T2 := fun b x _ _ => some (some (y b x), ())) (f := fun b x _ => if c b x = true then some (some (y b x), ()) else some (none, ())) nd hi (fun b g h => ⟨_, compM_tot _, h⟩) (fun b r h => by rw [compM_tot] at h; cases h; rfl) ok hg ht (fun _ => rfl) (fun d s H C cl fp b x _ => hc d s H C cl fp b x _ _) (fun d s H C cl fp b x _ _ => he d s H C cl fp b x _ _) hsw hy hyl hcm hs)
theorem pts_T {Y : Cx} {Γ : Gm} {Δ : Δs} {T : Option γ} : PTs Y [] (tTs W F Γ Δ T (fun _ : Unit => T) (fun _ => true) fun _ => Δ) := ⟨fun pins s σ H Q I ⟨ok, g, e, q⟩ => pts_nil.run pins s σ H Q I (q () H e (St.refl H) ok)⟩
end
end L3
end
section
set_option Elab.async false
set_option linter.all false
set_option maxRecDepth 100000
set_option maxHeartbeats 4000000
namespace L3
open PySem PySem.Spec PyProof.Rows L2
section
variable {X : Cx} {W : Bool} {F : Fm} {Γ : Gm} {Δ : Δs} {γ : Type}
theorem x_is {β : Type} {e : Expr} {T T' : Option γ} {k : β → Option γ} {E : β → Pd} {Δ' : β → Δs} (he : PE X e (tE W F Γ Δ T' k E Δ')) (h : T = T') : PE X e (tE W F Γ Δ T k E Δ') := by rw [h]; exact he
theorem o_is {β : Type} {e : Expr} {T T' : Option γ} {k : β → Option γ} {E : β → Od} {Δ' : β → Δs} (he : PE X e (tO W F Γ Δ T' k E Δ')) (h : T = T') : PE X e (tO W F Γ Δ T k E Δ') := by rw [h]; exact he
/-! ### membership -/
theorem inV_ints (i : Int) : ∀ xs : List Int, inV (.int i) (xs.map V.int) = decide (i ∈ xs)
  | [] => by simp [inV]
  | x :: xs => by
    have ih := inV_ints i xs
    unfold inV at ih ⊢
    rw [List.map_cons, List.any_cons, ih]
    show ((x == i) || decide (i ∈ xs)) = decide (i ∈ x :: xs)
    by_cases h : x = i
    · simp [h]
    · have h2 : ¬ i = x := fun z => h z.symm
      simp [h, h2]
theorem inV_strs (i : Str) : ∀ xs : List Str, inV (.str i) (xs.map V.str) = decide (i ∈ xs)
  | [] => by simp [inV]
  | x :: xs => by
    have ih := inV_strs i xs
    unfold inV at ih ⊢
    rw [List.map_cons, List.any_cons, ih]
    show ((x == i) || decide (i ∈ xs)) = decide (i ∈ x :: xs)
    by_cases h : x = i
    · simp [h]
    · have h2 : ¬ i = x := fun z => h z.symm
      simp [h, h2]
theorem flat_ints : ∀ xs : List Int, (xs.map V.int).all flatV = true
  | [] => rfl
  | _ :: xs => flat_ints xs
theorem flat_strs : ∀ xs : List Str, (xs.map V.str).all flatV = true
  | [] => rfl
  | _ :: xs => flat_strs xs
/-- a flat kind of values: what `in` asks -/
structure Flat {α : Type} [DecidableEq α] (E : α → Pd) where
  mp : α → V
  eq : ∀ {x H v}, (E x).pr H v → v = mp x
  rel : ∀ {x H}, (E x).pr H (mp x)
  fl : ∀ x, flatV (mp x) = true
  one : ∀ x y, eqV (mp x) (mp y) = decide (x = y)
def flInt : Flat pInt := ⟨V.int, fun h => h, rfl, fun _ => rfl, fun x y => by show (x == y) = _; by_cases h : x = y <;> simp [h]⟩
def flStr : Flat pStr := ⟨V.str, fun h => h, rfl, fun _ => rfl, fun x y => by show (x == y) = _; by_cases h : x = y <;> simp [h]⟩
def flBl : Flat pBl := ⟨V.bl, fun h => h, rfl, fun _ => rfl, fun x y => by show (x == y) = _; by_cases h : x = y <;> simp [h]⟩
theorem flat_vals {α : Type} {E : α → Pd} [DecidableEq α] (fl : Flat E) {H : Hp} : ∀ {xs : List α} {vs : List V}, Paired (fun x u => (E x).pr H u) xs vs → vs = xs.map fl.mp
  | _, _, .nil => rfl
  | _, _, .cons r t => by rw [List.map_cons, ← flat_vals fl t, fl.eq r]
theorem flat_in {α : Type} {E : α → Pd} [DecidableEq α] (fl : Flat E) (i : α) : ∀ xs : List α, inV (fl.mp i) (xs.map fl.mp) = decide (i ∈ xs)
  | [] => by simp [inV]
  | x :: xs => by
    have ih := flat_in fl i xs
    unfold inV at ih ⊢
    rw [List.map_cons, List.any_cons, ih, fl.one]
    by_cases h : x = i
    · simp [h]
    · have h2 : ¬ i = x := fun z => h z.symm
      simp [h, h2]
theorem flat_all {α : Type} {E : α → Pd} [DecidableEq α] (fl : Flat E) : ∀ xs : List α, (xs.map fl.mp).all flatV = true
  | [] => rfl
  | x :: xs => by rw [List.map_cons, List.all_cons, fl.fl, flat_all fl xs]; rfl
section
variable {a b : Expr} {pos : Pos} {β1 β2 α : Type} [DecidableEq α] {T : Option γ} {k1 : β1 → Option γ} {k : β1 × β2 → Option γ} {Δ1 : β1 → Δs} {Δ2 : β1 → β2 → Δs} {Ee : α → Pd} {i : β1 → α} {E2 : β1 → β2 → Pd} {xs : β1 → β2 → List α}
theorem v_inL (fl : Flat Ee) {neg : Bool} (rd : ∀ b1 b2, RdL (Δ2 b1 b2) (E2 b1 b2) Ee (xs b1 b2)) : ∀ b1 b2 σ v w H Q, Ok F Γ (Δ2 b1 b2) σ H → (Ee (i b1)).pr H v → (E2 b1 b2).pr H w → (∀ u, (pBl (if neg then !decide (i b1 ∈ xs b1 b2) else decide (i b1 ∈ xs b1 b2))).pr H u → Q u H) → rIn X.K neg v w H Q :=
  fun b1 b2 σ v w H Q ok hv hw q => by
    obtain ⟨p, vs, ev, sq, _, pr⟩ := (rd b1 b2 F H w ok.hk hw).sq (K := X.K)
    have e1 := flat_vals fl pr
    subst e1
    have e2 := fl.eq hv
    subst e2
    refine ⟨p, _, ev, .inl sq, fl.fl _, flat_all fl _, ?_⟩
    rw [flat_in fl]
    exact q _ rfl
theorem x_inL (fl : Flat Ee) (ha : PE X a (tE W F Γ Δ T k1 (fun b => Ee (i b)) Δ1)) (hb : ∀ b1, PE X b (tE W F Γ (Δ1 b1) (k1 b1) (fun b2 => k (b1, b2)) (E2 b1) (Δ2 b1))) (rd : ∀ b1 b2, RdL (Δ2 b1 b2) (E2 b1 b2) Ee (xs b1 b2)) (hm : behindInMarks .In b = false := by rfl) :
    PE X (.Compare a [.In] [b] pos) (tE W F Γ Δ T k (fun b => pBl (decide (i b.1 ∈ xs b.1 b.2))) fun b => Δ2 b.1 b.2) := x2t (b_cmp op_in_seq hm) ha hb (v_inL (neg := false) fl rd)
theorem x_ninL (fl : Flat Ee) (ha : PE X a (tE W F Γ Δ T k1 (fun b => Ee (i b)) Δ1)) (hb : ∀ b1, PE X b (tE W F Γ (Δ1 b1) (k1 b1) (fun b2 => k (b1, b2)) (E2 b1) (Δ2 b1))) (rd : ∀ b1 b2, RdL (Δ2 b1 b2) (E2 b1 b2) Ee (xs b1 b2)) (hm : behindInMarks .NotIn b = false := by rfl) :
    PE X (.Compare a [.NotIn] [b] pos) (tE W F Γ Δ T k (fun b => pBl (!decide (i b.1 ∈ xs b.1 b.2))) fun b => Δ2 b.1 b.2) := x2t (b_cmp op_notIn_seq hm) ha hb (v_inL (neg := true) fl rd)
theorem t_inL (fl : Flat Ee) (ha : PE X a (tE W F Γ Δ T k1 (fun b => Ee (i b)) Δ1)) (hb : ∀ b1, PE X b (tE W F Γ (Δ1 b1) (k1 b1) (fun b2 => k (b1, b2)) (E2 b1) (Δ2 b1))) (rd : ∀ b1 b2, RdL (Δ2 b1 b2) (E2 b1 b2) Ee (xs b1 b2)) (hm : behindInMarks .In b = false := by rfl) :
    PT X (.Compare a [.In] [b] pos) (tTs W F Γ Δ T k (fun b => decide (i b.1 ∈ xs b.1 b.2)) fun b => Δ2 b.1 b.2) := t2t (bt_cmp op_in_seq hm) ha hb (v_inL (neg := false) fl rd)
theorem t_ninL (fl : Flat Ee) (ha : PE X a (tE W F Γ Δ T k1 (fun b => Ee (i b)) Δ1)) (hb : ∀ b1, PE X b (tE W F Γ (Δ1 b1) (k1 b1) (fun b2 => k (b1, b2)) (E2 b1) (Δ2 b1))) (rd : ∀ b1 b2, RdL (Δ2 b1 b2) (E2 b1 b2) Ee (xs b1 b2)) (hm : behindInMarks .NotIn b = false := by rfl) :
    PT X (.Compare a [.NotIn] [b] pos) (tTs W F Γ Δ T k (fun b => !decide (i b.1 ∈ xs b.1 b.2)) fun b => Δ2 b.1 b.2) := t2t (bt_cmp op_notIn_seq hm) ha hb (v_inL (neg := true) fl rd)
/-! equality of flat things -/
theorem v_eqF (fl : Flat Ee) (sc : ∀ x y, scal (fl.mp x) (fl.mp y) = true) (inj : ∀ x y, fl.mp x = fl.mp y → x = y) {j : β1 → β2 → α} : ∀ b1 b2 σ v w H Q, Ok F Γ (Δ2 b1 b2) σ H → (Ee (i b1)).pr H v → (Ee (j b1 b2)).pr H w → (∀ u, (pBl (decide (i b1 = j b1 b2))).pr H u → Q u H) → rEq v w H Q :=
  fun b1 b2 σ v w H Q ok hv hw q => by
    rw [fl.eq hv, fl.eq hw]
    refine ⟨sc _ _, q _ ?_⟩
    show V.bl _ = V.bl _
    congr 1
    by_cases z : i b1 = j b1 b2
    · rw [z]; simp
    · rw [decide_eq_false z, decide_eq_false fun y => z (inj _ _ y)]
theorem v_neF (fl : Flat Ee) (sc : ∀ x y, scal (fl.mp x) (fl.mp y) = true) (inj : ∀ x y, fl.mp x = fl.mp y → x = y) {j : β1 → β2 → α} : ∀ b1 b2 σ v w H Q, Ok F Γ (Δ2 b1 b2) σ H → (Ee (i b1)).pr H v → (Ee (j b1 b2)).pr H w → (∀ u, (pBl (!decide (i b1 = j b1 b2))).pr H u → Q u H) → rNe v w H Q :=
  fun b1 b2 σ v w H Q ok hv hw q => by
    rw [fl.eq hv, fl.eq hw]
    refine ⟨sc _ _, q _ ?_⟩
    show V.bl _ = V.bl _
    congr 1
    by_cases z : i b1 = j b1 b2
    · rw [z]; simp
    · rw [decide_eq_false z, decide_eq_false fun y => z (inj _ _ y)]
end
section
variable {a b : Expr} {pos : Pos} {β1 β2 : Type} {T : Option γ} {k1 : β1 → Option γ} {k : β1 × β2 → Option γ} {Δ1 : β1 → Δs} {Δ2 : β1 → β2 → Δs} {i : β1 → Str} {j : β1 → β2 → Str} {c : β1 → Bool} {d : β1 → β2 → Bool}
theorem x_eqS (ha : PE X a (tE W F Γ Δ T k1 (fun b => pStr (i b)) Δ1)) (hb : ∀ b1, PE X b (tE W F Γ (Δ1 b1) (k1 b1) (fun b2 => k (b1, b2)) (fun b => pStr (j b1 b)) (Δ2 b1))) : PE X (.Compare a [.Eq] [b] pos) (tE W F Γ Δ T k (fun b => pBl (decide (i b.1 = j b.1 b.2))) fun b => Δ2 b.1 b.2) := x2t (b_cmp op_eq (nomark _)) ha hb (v_eqF flStr (fun _ _ => rfl) fun _ _ h => V.str.inj h)
theorem x_neS (ha : PE X a (tE W F Γ Δ T k1 (fun b => pStr (i b)) Δ1)) (hb : ∀ b1, PE X b (tE W F Γ (Δ1 b1) (k1 b1) (fun b2 => k (b1, b2)) (fun b => pStr (j b1 b)) (Δ2 b1))) : PE X (.Compare a [.NotEq] [b] pos) (tE W F Γ Δ T k (fun b => pBl (!decide (i b.1 = j b.1 b.2))) fun b => Δ2 b.1 b.2) := x2t (b_cmp op_ne (nomark _)) ha hb (v_neF flStr (fun _ _ => rfl) fun _ _ h => V.str.inj h)
theorem t_eqS (ha : PE X a (tE W F Γ Δ T k1 (fun b => pStr (i b)) Δ1)) (hb : ∀ b1, PE X b (tE W F Γ (Δ1 b1) (k1 b1) (fun b2 => k (b1, b2)) (fun b => pStr (j b1 b)) (Δ2 b1))) : PT X (.Compare a [.Eq] [b] pos) (tTs W F Γ Δ T k (fun b => decide (i b.1 = j b.1 b.2)) fun b => Δ2 b.1 b.2) := t2t (bt_cmp op_eq (nomark _)) ha hb (v_eqF flStr (fun _ _ => rfl) fun _ _ h => V.str.inj h)
theorem t_neS (ha : PE X a (tE W F Γ Δ T k1 (fun b => pStr (i b)) Δ1)) (hb : ∀ b1, PE X b (tE W F Γ (Δ1 b1) (k1 b1) (fun b2 => k (b1, b2)) (fun b => pStr (j b1 b)) (Δ2 b1))) : PT X (.Compare a [.NotEq] [b] pos) (tTs W F Γ Δ T k (fun b => !decide (i b.1 = j b.1 b.2)) fun b => Δ2 b.1 b.2) := t2t (bt_cmp op_ne (nomark _)) ha hb (v_neF flStr (fun _ _ => rfl) fun _ _ h => V.str.inj h)
theorem x_eqB (ha : PE X a (tE W F Γ Δ T k1 (fun b => pBl (c b)) Δ1)) (hb : ∀ b1, PE X b (tE W F Γ (Δ1 b1) (k1 b1) (fun b2 => k (b1, b2)) (fun b => pBl (d b1 b)) (Δ2 b1))) : PE X (.Compare a [.Eq] [b] pos) (tE W F Γ Δ T k (fun b => pBl (decide (c b.1 = d b.1 b.2))) fun b => Δ2 b.1 b.2) := x2t (b_cmp op_eq (nomark _)) ha hb (v_eqF flBl (fun _ _ => rfl) fun _ _ h => V.bl.inj h)
theorem x_neB (ha : PE X a (tE W F Γ Δ T k1 (fun b => pBl (c b)) Δ1)) (hb : ∀ b1, PE X b (tE W F Γ (Δ1 b1) (k1 b1) (fun b2 => k (b1, b2)) (fun b => pBl (d b1 b)) (Δ2 b1))) : PE X (.Compare a [.NotEq] [b] pos) (tE W F Γ Δ T k (fun b => pBl (!decide (c b.1 = d b.1 b.2))) fun b => Δ2 b.1 b.2) := x2t (b_cmp op_ne (nomark _)) ha hb (v_neF flBl (fun _ _ => rfl) fun _ _ h => V.bl.inj h)
theorem t_eqB (ha : PE X a (tE W F Γ Δ T k1 (fun b => pBl (c b)) Δ1)) (hb : ∀ b1, PE X b (tE W F Γ (Δ1 b1) (k1 b1) (fun b2 => k (b1, b2)) (fun b => pBl (d b1 b)) (Δ2 b1))) : PT X (.Compare a [.Eq] [b] pos) (tTs W F Γ Δ T k (fun b => decide (c b.1 = d b.1 b.2)) fun b => Δ2 b.1 b.2) := t2t (bt_cmp op_eq (nomark _)) ha hb (v_eqF flBl (fun _ _ => rfl) fun _ _ h => V.bl.inj h)
theorem t_neB (ha : PE X a (tE W F Γ Δ T k1 (fun b => pBl (c b)) Δ1)) (hb : ∀ b1, PE X b (tE W F Γ (Δ1 b1) (k1 b1) (fun b2 => k (b1, b2)) (fun b => pBl (d b1 b)) (Δ2 b1))) : PT X (.Compare a [.NotEq] [b] pos) (tTs W F Γ Δ T k (fun b => !decide (c b.1 = d b.1 b.2)) fun b => Δ2 b.1 b.2) := t2t (bt_cmp op_ne (nomark _)) ha hb (v_neF flBl (fun _ _ => rfl) fun _ _ h => V.bl.inj h)
end
/-! ### equality of lists and tuples -/
structure Dt {α : Type} [DecidableEq α] (E : α → Pd) where
  toD : α → PyData
  dp : ∀ {K H v x}, (E x).pr H v → Dp K H v (toD x)
  dep : Nat
  can : ∀ x, (toD x).canLay0 = true
  deep : ∀ x, (toD x).depth ≤ dep
  eq : ∀ x y, PyData.eqv (toD x) (toD y) = decide (x = y)
def dtInt : Dt pInt := ⟨.int, fun h => by rw [h]; exact .int _, 0, fun _ => rfl, fun _ => Nat.le_refl 0, fun x y => by show (x == y) = _; by_cases h : x = y <;> simp [h]⟩
def dtBl : Dt pBl := ⟨.bool, fun h => by rw [h]; exact .bl _, 0, fun _ => rfl, fun _ => Nat.le_refl 0, fun x y => by show (x == y) = _; by_cases h : x = y <;> simp [h]⟩
theorem dp_all {α : Type} {E : α → Pd} [DecidableEq α] (d : Dt E) {K : PySem.W.Frag} {H : Hp} : ∀ {xs : List α} {vs : List V}, Paired (fun x u => (E x).pr H u) xs vs → DpAll K H vs (xs.map d.toD)
  | _, _, .nil => .nil
  | _, _, .cons r t => .cons (d.dp r) (dp_all d t)
theorem can_all {α : Type} {E : α → Pd} [DecidableEq α] (d : Dt E) : ∀ xs : List α, PyData.canLayAll0 (xs.map d.toD) = true
  | [] => rfl
  | x :: xs => by
    show (PyData.canLay0 (d.toD x) && PyData.canLayAll0 (xs.map d.toD)) = true
    rw [d.can, can_all d xs]; rfl
theorem deep_all {α : Type} {E : α → Pd} [DecidableEq α] (d : Dt E) : ∀ xs : List α, PyData.depthAll (xs.map d.toD) ≤ d.dep
  | [] => Nat.zero_le _
  | x :: xs => Nat.max_le.mpr ⟨d.deep x, deep_all d xs⟩
theorem eqv_all {α : Type} {E : α → Pd} [DecidableEq α] (d : Dt E) : ∀ xs ys : List α, PyData.eqvAll (xs.map d.toD) (ys.map d.toD) = decide (xs = ys)
  | [], [] => rfl
  | [], _ :: _ => rfl
  | _ :: _, [] => rfl
  | x :: xs, y :: ys => by
    show (PyData.eqv (d.toD x) (d.toD y) && PyData.eqvAll (xs.map d.toD) (ys.map d.toD)) = _
    rw [d.eq, eqv_all d xs ys]
    by_cases h : x = y <;> by_cases h2 : xs = ys <;> simp [h, h2]
def dtL {α : Type} {E : α → Pd} [DecidableEq α] (d : Dt E) : Dt (pL E) := ⟨fun xs => .list (xs.map d.toD), fun ⟨a, o, vs, e, h, z, p⟩ => by rw [e]; exact .lst (.inl (.inr ⟨o, h⟩)) (dp_all d p), d.dep + 1, fun xs => can_all d xs, fun xs => Nat.succ_le_succ (deep_all d xs), fun xs ys => eqv_all d xs ys⟩
def dtTL {α : Type} {E : α → Pd} [DecidableEq α] (d : Dt E) : Dt (pTL E) := ⟨fun xs => .tuple (xs.map d.toD), fun ⟨a, vs, e, h, z, p⟩ => by rw [e]; exact .tup (.inl (.inl h)) (dp_all d p), d.dep + 1, fun xs => can_all d xs, fun xs => Nat.succ_le_succ (deep_all d xs), fun xs ys => eqv_all d xs ys⟩
section
variable {a b : Expr} {pos : Pos} {β1 β2 α : Type} [DecidableEq α] {T : Option γ} {k1 : β1 → Option γ} {k : β1 × β2 → Option γ} {Δ1 : β1 → Δs} {Δ2 : β1 → β2 → Δs} {Ee : α → Pd} {E1 : β1 → Pd} {E2 : β1 → β2 → Pd} {xs ys : β1 → β2 → List α}
theorem RL.dp {α : Type} {E : α → Pd} [DecidableEq α] (d : Dt E) {xs : List α} {H : Hp} {v : V} {K : PySem.W.Frag} (h : RL E xs H v) : Dp K H v (.list (xs.map d.toD)) := by
  obtain ⟨a, vs, e, sq, z, p⟩ := h.sq (K := K)
  rw [e]
  exact .lst sq (dp_all d p)
theorem shaped_l {α : Type} {E : α → Pd} [DecidableEq α] (d : Dt E) (hd : d.dep < 60) (xs : List α) : SeqAt.shaped (.list (xs.map d.toD)) = true := by
  show (PyData.canLayAll0 (xs.map d.toD) && decide (PyData.depthAll (xs.map d.toD) + 1 ≤ 64)) = true
  rw [can_all d xs, decide_eq_true (by have := deep_all d xs; omega)]; rfl
theorem v_eqL (d : Dt Ee) (hd : d.dep < 60) (r1 : ∀ b1 b2, RdL (Δ2 b1 b2) (E1 b1) Ee (xs b1 b2)) (r2 : ∀ b1 b2, RdL (Δ2 b1 b2) (E2 b1 b2) Ee (ys b1 b2)) : ∀ b1 b2 σ v w H Q, Ok F Γ (Δ2 b1 b2) σ H → (E1 b1).pr H v → (E2 b1 b2).pr H w → (∀ u, (pBl (decide (xs b1 b2 = ys b1 b2))).pr H u → Q u H) → rEqD X.K v w H Q :=
  fun b1 b2 σ v w H Q ok hv hw q => ⟨_, _, (r1 b1 b2 F H v ok.hk hv).dp d, (r2 b1 b2 F H w ok.hk hw).dp d, shaped_l d hd _, shaped_l d hd _, by
    show Q (.bl (PyData.eqvAll _ _)) H
    rw [eqv_all d]
    exact q _ rfl⟩
theorem v_neL (d : Dt Ee) (hd : d.dep < 60) (r1 : ∀ b1 b2, RdL (Δ2 b1 b2) (E1 b1) Ee (xs b1 b2)) (r2 : ∀ b1 b2, RdL (Δ2 b1 b2) (E2 b1 b2) Ee (ys b1 b2)) : ∀ b1 b2 σ v w H Q, Ok F Γ (Δ2 b1 b2) σ H → (E1 b1).pr H v → (E2 b1 b2).pr H w → (∀ u, (pBl (!decide (xs b1 b2 = ys b1 b2))).pr H u → Q u H) → rNeD X.K v w H Q :=
  fun b1 b2 σ v w H Q ok hv hw q => ⟨_, _, (r1 b1 b2 F H v ok.hk hv).dp d, (r2 b1 b2 F H w ok.hk hw).dp d, shaped_l d hd _, shaped_l d hd _, by
    show Q (.bl (!PyData.eqvAll _ _)) H
    rw [eqv_all d]
    exact q _ rfl⟩
theorem x_eqL (hu : X.A.units + 64 < cLine) (d : Dt Ee) (ha : PE X a (tE W F Γ Δ T k1 E1 Δ1)) (hb : ∀ b1, PE X b (tE W F Γ (Δ1 b1) (k1 b1) (fun b2 => k (b1, b2)) (E2 b1) (Δ2 b1))) (r1 : ∀ b1 b2, RdL (Δ2 b1 b2) (E1 b1) Ee (xs b1 b2)) (r2 : ∀ b1 b2, RdL (Δ2 b1 b2) (E2 b1 b2) Ee (ys b1 b2)) (hd : d.dep < 60 := by decide) :
    PE X (.Compare a [.Eq] [b] pos) (tE W F Γ Δ T k (fun b => pBl (decide (xs b.1 b.2 = ys b.1 b.2))) fun b => Δ2 b.1 b.2) := x2t (b_cmp (op_eqD hu) (nomark _)) ha hb (v_eqL d hd r1 r2)
theorem x_neL (hu : X.A.units + 64 < cLine) (d : Dt Ee) (ha : PE X a (tE W F Γ Δ T k1 E1 Δ1)) (hb : ∀ b1, PE X b (tE W F Γ (Δ1 b1) (k1 b1) (fun b2 => k (b1, b2)) (E2 b1) (Δ2 b1))) (r1 : ∀ b1 b2, RdL (Δ2 b1 b2) (E1 b1) Ee (xs b1 b2)) (r2 : ∀ b1 b2, RdL (Δ2 b1 b2) (E2 b1 b2) Ee (ys b1 b2)) (hd : d.dep < 60 := by decide) :
    PE X (.Compare a [.NotEq] [b] pos) (tE W F Γ Δ T k (fun b => pBl (!decide (xs b.1 b.2 = ys b.1 b.2))) fun b => Δ2 b.1 b.2) := x2t (b_cmp (op_neD hu) (nomark _)) ha hb (v_neL d hd r1 r2)
theorem t_eqL (hu : X.A.units + 64 < cLine) (d : Dt Ee) (ha : PE X a (tE W F Γ Δ T k1 E1 Δ1)) (hb : ∀ b1, PE X b (tE W F Γ (Δ1 b1) (k1 b1) (fun b2 => k (b1, b2)) (E2 b1) (Δ2 b1))) (r1 : ∀ b1 b2, RdL (Δ2 b1 b2) (E1 b1) Ee (xs b1 b2)) (r2 : ∀ b1 b2, RdL (Δ2 b1 b2) (E2 b1 b2) Ee (ys b1 b2)) (hd : d.dep < 60 := by decide) :
    PT X (.Compare a [.Eq] [b] pos) (tTs W F Γ Δ T k (fun b => decide (xs b.1 b.2 = ys b.1 b.2)) fun b => Δ2 b.1 b.2) := t2t (bt_cmp (op_eqD hu) (nomark _)) ha hb (v_eqL d hd r1 r2)
theorem t_neL (hu : X.A.units + 64 < cLine) (d : Dt Ee) (ha : PE X a (tE W F Γ Δ T k1 E1 Δ1)) (hb : ∀ b1, PE X b (tE W F Γ (Δ1 b1) (k1 b1) (fun b2 => k (b1, b2)) (E2 b1) (Δ2 b1))) (r1 : ∀ b1 b2, RdL (Δ2 b1 b2) (E1 b1) Ee (xs b1 b2)) (r2 : ∀ b1 b2, RdL (Δ2 b1 b2) (E2 b1 b2) Ee (ys b1 b2)) (hd : d.dep < 60 := by decide) :
    PT X (.Compare a [.NotEq] [b] pos) (tTs W F Γ Δ T k (fun b => !decide (xs b.1 b.2 = ys b.1 b.2)) fun b => Δ2 b.1 b.2) := t2t (bt_cmp (op_neD hu) (nomark _)) ha hb (v_neL d hd r1 r2)
end
end
end L3
end
section
set_option Elab.async false
set_option linter.all false
set_option maxRecDepth 100000
set_option maxHeartbeats 4000000
namespace L3
open PySem PySem.Spec PyProof.Rows L2
def cutL {α : Type} (xs : List α) (lo hi : Option Int) : List α := (xs.drop (HT.sIx xs.length 0 lo)).take (HT.sIx xs.length xs.length hi - HT.sIx xs.length 0 lo)
theorem cutL_len {α : Type} (xs : List α) (lo hi : Option Int) : (cutL xs lo hi).length ≤ xs.length := by
  unfold cutL
  rw [List.length_take, List.length_drop]
  omega
theorem paired_cut {α : Type} {P : α → V → Prop} {xs : List α} {vs : List V} (h : Paired P xs vs) (lo hi : Option Int) : Paired P (cutL xs lo hi) (cutV vs lo hi) := by
  unfold cutL cutV
  rw [← paired_len h]
  exact paired_take _ (paired_drop _ h)
def srt (xs : List Int) : List Int := xs.mergeSort fun a b => decide (a ≤ b)
theorem srt_perm (xs : List Int) : (srt xs).Perm xs := List.mergeSort_perm _ _
theorem srt_le (xs : List Int) : (srt xs).Pairwise (· ≤ ·) := by
  have h := List.pairwise_mergeSort (le := fun a b : Int => decide (a ≤ b)) (fun a b c h1 h2 => by
    have h1 := of_decide_eq_true h1
    have h2 := of_decide_eq_true h2
    exact decide_eq_true (by omega)) (fun a b => by
    by_cases h : a ≤ b
    · simp [h]
    · have : b ≤ a := by omega
      simp [this]) xs
  exact h.imp fun h => of_decide_eq_true h
theorem sorted_eq : ∀ {xs ys : List Int}, xs.Perm ys → xs.Pairwise (· ≤ ·) → ys.Pairwise (· ≤ ·) → xs = ys
  | [], ys, p, _, _ => (List.nil_perm.mp p).symm ▸ rfl
  | x :: xs, [], p, _, _ => (List.perm_nil.mp p)
  | x :: xs, y :: ys, p, hx, hy => by
    have e : x = y := by
      have m1 : x ∈ y :: ys := p.mem_iff.mp List.mem_cons_self
      have m2 : y ∈ x :: xs := p.mem_iff.mpr List.mem_cons_self
      have l1 : y ≤ x := by
        rcases List.mem_cons.mp m1 with h | h
        · omega
        · exact (List.pairwise_cons.mp hy).1 x h
      have l2 : x ≤ y := by
        rcases List.mem_cons.mp m2 with h | h
        · omega
        · exact (List.pairwise_cons.mp hx).1 y h
      omega
    subst e
    rw [sorted_eq (List.Perm.cons_inv p) (List.pairwise_cons.mp hx).2 (List.pairwise_cons.mp hy).2]
theorem srt_uniq {xs ys : List Int} (p : ys.Perm xs) (h : ys.Pairwise (· ≤ ·)) : ys = srt xs := sorted_eq (p.trans (srt_perm xs).symm) h (srt_le xs)
section
variable {X : Cx} {W : Bool} {F : Fm} {Γ : Gm} {Δ : Δs} {γ : Type}
/-! ### slices -/
def tPo {β γ : Type} (W : Bool) (F : Fm) (Γ : Gm) (Δ : Δs) (T : Option γ) (k : β → Option γ) (o : β → Option Int) (Δ' : β → Δs) : TO := fun σ H Q =>
  Ok F Γ Δ σ H ∧ ∃ g, T = some g ∧ ∀ b H', k b = some g → St W H H' → Ok F Γ (Δ' b) σ H' → Q (o b) H'
theorem _root_.L2.PO.wk {e : Option Expr} {t t' : TO} (h : PO X e t) (w : ∀ σ H Q, t' σ H Q → t σ H Q) : PO X e t' := ⟨fun pins s σ H Q I q => h.run pins s σ H Q I (w σ H Q q)⟩
theorem po_ex {β : Type} {e : Option Expr} {t : β → TO} (h : ∀ b, PO X e (t b)) : PO X e (fun σ H Q => ∃ b, t b σ H Q) := ⟨fun pins s σ H Q I ⟨b, q⟩ => (h b).run pins s σ H Q I q⟩
theorem p_none {k : Unit → Option γ} : PO X none (tPo W F Γ Δ (k ()) k (fun _ => none) fun _ => Δ) := po_none.wk fun σ H Q ⟨ok, g, e, q⟩ => q () H e (St.refl H) ok
theorem p_some {e : Expr} {β : Type} {T : Option γ} {k : β → Option γ} {i : β → Int} {Δ' : β → Δs} (he : PE X e (tE W F Γ Δ T k (fun b => pInt (i b)) Δ')) : PO X (some e) (tPo W F Γ Δ T k (fun b => some (i b)) Δ') :=
  (po_some he).wk fun σ H Q ⟨ok, g, e, q⟩ => ⟨ok, g, e, fun b v H' kb f ok' hv => ⟨i b, hv, q b H' kb f ok'⟩⟩
section
variable {a : Expr} {lo hi : Option Expr} {p2 pos : Pos} {β1 β2 β3 α : Type} {T : Option γ} {k1 : β1 → Option γ} {k2 : β1 → β2 → Option γ} {k : β1 × β2 × β3 → Option γ} {E1 : β1 → Pd} {Ee : α → Pd} {xs : β1 → β2 → β3 → List α} {o1 : β1 → β2 → Option Int} {o2 : β1 → β2 → β3 → Option Int} {Δ1 : β1 → Δs} {Δ2 : β1 → β2 → Δs} {Δ3 : β1 → β2 → β3 → Δs}
theorem x_slL (ha : PE X a (tE W F Γ Δ T k1 E1 Δ1)) (hl : ∀ b1, PO X lo (tPo W F Γ (Δ1 b1) (k1 b1) (k2 b1) (o1 b1) (Δ2 b1))) (hh : ∀ b1 b2, PO X hi (tPo W F Γ (Δ2 b1 b2) (k2 b1 b2) (fun b3 => k (b1, b2, b3)) (o2 b1 b2) (Δ3 b1 b2))) (rd : ∀ b1 b2 b3, RdL (Δ3 b1 b2 b3) (E1 b1) Ee (xs b1 b2 b3)) :
    PE X (.Subscript a (.Slice lo hi none p2) pos) (tO W F Γ Δ T k (fun b => oL Ee (cutL (xs b.1 b.2.1 b.2.2) (o1 b.1 b.2.1) (o2 b.1 b.2.1 b.2.2))) fun b => Δ3 b.1 b.2.1 b.2.2) :=
  (pe_slice sl_list ha (po_ex hl) (po_ex fun b1 => po_ex fun b2 => hh b1 b2)).wk fun σ H Q ⟨ok, g, e, q⟩ => ⟨ok, g, e, fun b1 v H1 kb1 f1 ok1 hv => ⟨b1, ok1, g, kb1, fun b2 H2 kb2 f2 ok2 => ⟨b1, b2, ok2, g, kb2, fun b3 H3 kb3 f3 ok3 => by
    obtain ⟨p, vs, ev, sq, z, pr⟩ := (rd b1 b2 b3 F H3 v ok3.hk ((E1 b1).mono (f2.fz.trans f3.fz) hv)).sq (K := X.K)
    refine ⟨p, vs, ev, sq, fun n nn => ?_⟩
    have st := (f1.trans f2).trans f3
    obtain ⟨o, g'⟩ := ok3.newL nn (Nat.le_trans (cutL_len _ _ _) z) (paired_cut pr (o1 b1 b2) (o2 b1 b2 b3))
    exact q (b1, b2, b3) _ _ kb3 (st.trans g'.st) (o.since st)⟩⟩⟩
theorem x_slS {z : β1 → Str} (ha : PE X a (tE W F Γ Δ T k1 (fun b => pStr (z b)) Δ1)) (hl : ∀ b1, PO X lo (tPo W F Γ (Δ1 b1) (k1 b1) (k2 b1) (o1 b1) (Δ2 b1))) (hh : ∀ b1 b2, PO X hi (tPo W F Γ (Δ2 b1 b2) (k2 b1 b2) (fun b3 => grd ((z b1).length ≤ sizeLine) (k (b1, b2, b3))) (o2 b1 b2) (Δ3 b1 b2))) :
    PE X (.Subscript a (.Slice lo hi none p2) pos) (tE W F Γ Δ T k (fun b => pStr (cutS (z b.1) (o1 b.1 b.2.1) (o2 b.1 b.2.1 b.2.2))) fun b => Δ3 b.1 b.2.1 b.2.2) :=
  (pe_slice sl_str ha (po_ex hl) (po_ex fun b1 => po_ex fun b2 => hh b1 b2)).wk fun σ H Q ⟨ok, g, e, q⟩ => ⟨ok, g, e, fun b1 v H1 kb1 f1 ok1 hv => ⟨b1, ok1, g, kb1, fun b2 H2 kb2 f2 ok2 => ⟨b1, b2, ok2, g, kb2, fun b3 H3 kb3 f3 ok3 => by
    obtain ⟨c, kb⟩ := grd_some kb3
    exact ⟨z b1, hv, c, q (b1, b2, b3) _ H3 kb ((f1.trans f2).trans f3) ok3 rfl⟩⟩⟩⟩
end
section
variable {a : Expr} {β α : Type} {T : Option γ} {k : β → Option γ} {E1 : β → Pd} {Ee : α → Pd} {xs : β → List α} {Δ1 : β → Δs}
/-- xs[::-1] -/
theorem x_rev {n : Nat} {p1 p2 p3 pos : Pos} (ha : PE X a (tE W F Γ Δ T k E1 Δ1)) (rd : ∀ b, RdL (Δ1 b) (E1 b) Ee (xs b)) : PE X (.Subscript a (.Slice none none (some (.UnaryOp .USub (.Constant (.int 1) n p1) p2)) p3) pos) (tO W F Γ Δ T k (fun b => oL Ee (xs b).reverse) Δ1) :=
  (pe_revL ha).wk fun σ H Q ⟨ok, g, e, q⟩ => ⟨ok, g, e, fun b v H1 kb f ok1 hv => by
    obtain ⟨p, vs, ev, sq, z, pr⟩ := (rd b F H1 v ok1.hk hv).sq (K := X.K)
    refine ⟨p, vs, ev, sq, fun n nn => ?_⟩
    obtain ⟨o, g'⟩ := ok1.newL nn (by rw [List.length_reverse]; exact z) (paired_rev pr)
    exact q b _ _ kb (f.trans g'.st) (o.since f)⟩
/-! sorted(xs), all(xs), any(xs), sum(xs) -/
variable {p pos : Pos}
theorem x_sortedI {xs : β → List Int} (hm : X.mg "sorted" = none) (ha : PE X a (tE W F Γ Δ T k E1 Δ1)) (rd : ∀ b, RdL (Δ1 b) (E1 b) pInt (xs b)) (hg : Gl X "sorted" := by rfl) (hs : starEach [a] X.env = (false, eval a X.env) :: starEach [] X.env := by rfl) : PE X (.Call (.Name "sorted" p) [a] [] pos) (tO W F Γ Δ T k (fun b => oL pInt (srt (xs b))) Δ1) :=
  x1n (u_callB cr_sortedI hg hm (by decide +kernel) (by decide) (by decide) hs) ha fun b σ v H Q ok hv q => by
    obtain ⟨p, vs, ev, sq, z, pr⟩ := (rd b F H v ok.hk hv).sq (K := X.K)
    have e := paired_ints pr
    subst e
    rw [ev]
    refine ⟨p, xs b, rfl, sq, fun ns' l pm so hl => ?_⟩
    have e := srt_uniq pm so
    subst e
    exact q l _ hl (by rw [(srt_perm _).length_eq]; exact z) (ints_paired _)
theorem x_all {xs : β → List Bool} (hm : X.mg "all" = none) (ha : PE X a (tE W F Γ Δ T k E1 Δ1)) (rd : ∀ b, RdL (Δ1 b) (E1 b) pBl (xs b)) (hg : Gl X "all" := by rfl) (hs : starEach [a] X.env = (false, eval a X.env) :: starEach [] X.env := by rfl) (hc : X.calm = true := by rfl) : PE X (.Call (.Name "all" p) [a] [] pos) (tE W F Γ Δ T k (fun b => pBl ((xs b).all id)) Δ1) :=
  x1t (u_callB (cr_all hc) hg hm (by decide +kernel) (by decide) (by decide) hs) ha fun b σ v H Q ok hv q => by
    obtain ⟨p, vs, ev, sq, z, pr⟩ := (rd b F H v ok.hk hv).sq (K := X.K)
    have e := paired_bls pr
    subst e
    rw [ev]
    exact ⟨p, xs b, rfl, sq, q _ rfl⟩
theorem x_any {xs : β → List Bool} (hm : X.mg "any" = none) (ha : PE X a (tE W F Γ Δ T k E1 Δ1)) (rd : ∀ b, RdL (Δ1 b) (E1 b) pBl (xs b)) (hg : Gl X "any" := by rfl) (hs : starEach [a] X.env = (false, eval a X.env) :: starEach [] X.env := by rfl) (hc : X.calm = true := by rfl) : PE X (.Call (.Name "any" p) [a] [] pos) (tE W F Γ Δ T k (fun b => pBl ((xs b).any id)) Δ1) :=
  x1t (u_callB (cr_any hc) hg hm (by decide +kernel) (by decide) (by decide) hs) ha fun b σ v H Q ok hv q => by
    obtain ⟨p, vs, ev, sq, z, pr⟩ := (rd b F H v ok.hk hv).sq (K := X.K)
    have e := paired_bls pr
    subst e
    rw [ev]
    exact ⟨p, xs b, rfl, sq, q _ rfl⟩
theorem x_sum {xs : β → List Int} (hm : X.mg "sum" = none) (ha : PE X a (tE W F Γ Δ T k E1 Δ1)) (rd : ∀ b, RdL (Δ1 b) (E1 b) pInt (xs b)) (hg : Gl X "sum" := by rfl) (hs : starEach [a] X.env = (false, eval a X.env) :: starEach [] X.env := by rfl) (hc : X.calm = true := by rfl) : PE X (.Call (.Name "sum" p) [a] [] pos) (tE W F Γ Δ T k (fun b => pInt (xs b).sum) Δ1) :=
  x1t (u_callB (cr_sum hc) hg hm (by decide +kernel) (by decide) (by decide) hs) ha fun b σ v H Q ok hv q => by
    obtain ⟨p, vs, ev, sq, z, pr⟩ := (rd b F H v ok.hk hv).sq (K := X.K)
    have e := paired_ints pr
    subst e
    rw [ev]
    exact ⟨p, xs b, rfl, sq, q _ rfl⟩
end
/-! ### tuples by place -/
section
variable {a : Expr} {i : Int} {n : Nat} {p pos : Pos} {β α1 α2 α3 : Type} {T : Option γ} {k : β → Option γ} {A : α1 → Pd} {B : α2 → Pd} {C : α3 → Pd} {Δ1 : β → Δs}
theorem x_fst {x : β → α1 × α2} (ha : PE X a (tE W F Γ Δ T k (fun b => pT2 A B (x b)) Δ1)) : PE X (.Subscript a (.Constant (.int 0) n p) pos) (tE W F Γ Δ T k (fun b => A (x b).1) Δ1) :=
  (pe_ix ix_tup ha pe_int (fun _ _ => rfl)).wk fun σ H Q ⟨ok, g, e, q⟩ => ⟨ok, g, e, fun b v H1 kb f ok1 ⟨t, u, w, ev, h, p1, p2⟩ => ⟨t, [u, w], 0, u, ev, rfl, .inl (.inl h), rfl, q b u H1 kb f ok1 p1⟩⟩
theorem x_snd {x : β → α1 × α2} (ha : PE X a (tE W F Γ Δ T k (fun b => pT2 A B (x b)) Δ1)) : PE X (.Subscript a (.Constant (.int 1) n p) pos) (tE W F Γ Δ T k (fun b => B (x b).2) Δ1) :=
  (pe_ix ix_tup ha pe_int (fun _ _ => rfl)).wk fun σ H Q ⟨ok, g, e, q⟩ => ⟨ok, g, e, fun b v H1 kb f ok1 ⟨t, u, w, ev, h, p1, p2⟩ => ⟨t, [u, w], 1, w, ev, rfl, .inl (.inl h), rfl, q b w H1 kb f ok1 p2⟩⟩
theorem x_t30 {x : β → α1 × α2 × α3} (ha : PE X a (tE W F Γ Δ T k (fun b => pT3 A B C (x b)) Δ1)) : PE X (.Subscript a (.Constant (.int 0) n p) pos) (tE W F Γ Δ T k (fun b => A (x b).1) Δ1) :=
  (pe_ix ix_tup ha pe_int (fun _ _ => rfl)).wk fun σ H Q ⟨ok, g, e, q⟩ => ⟨ok, g, e, fun b v H1 kb f ok1 ⟨t, u, w, z, ev, h, p1, p2, p3⟩ => ⟨t, [u, w, z], 0, u, ev, rfl, .inl (.inl h), rfl, q b u H1 kb f ok1 p1⟩⟩
theorem x_t31 {x : β → α1 × α2 × α3} (ha : PE X a (tE W F Γ Δ T k (fun b => pT3 A B C (x b)) Δ1)) : PE X (.Subscript a (.Constant (.int 1) n p) pos) (tE W F Γ Δ T k (fun b => B (x b).2.1) Δ1) :=
  (pe_ix ix_tup ha pe_int (fun _ _ => rfl)).wk fun σ H Q ⟨ok, g, e, q⟩ => ⟨ok, g, e, fun b v H1 kb f ok1 ⟨t, u, w, z, ev, h, p1, p2, p3⟩ => ⟨t, [u, w, z], 1, w, ev, rfl, .inl (.inl h), rfl, q b w H1 kb f ok1 p2⟩⟩
theorem x_t32 {x : β → α1 × α2 × α3} (ha : PE X a (tE W F Γ Δ T k (fun b => pT3 A B C (x b)) Δ1)) : PE X (.Subscript a (.Constant (.int 2) n p) pos) (tE W F Γ Δ T k (fun b => C (x b).2.2) Δ1) :=
  (pe_ix ix_tup ha pe_int (fun _ _ => rfl)).wk fun σ H Q ⟨ok, g, e, q⟩ => ⟨ok, g, e, fun b v H1 kb f ok1 ⟨t, u, w, z, ev, h, p1, p2, p3⟩ => ⟨t, [u, w, z], 2, z, ev, rfl, .inl (.inl h), rfl, q b z H1 kb f ok1 p3⟩⟩
end
/-! ### xs + ys -/
def rCatR (K : PySem.W.Frag) : R2 := fun x y H Q => ∃ l b xs zs, x = .ref l ∧ y = .ref b ∧ Rd H l (.lst xs) ∧ Rd H b (.lst zs) ∧ xs.length + zs.length ≤ sizeLine ∧ ∀ p, H p = none → Q (.ref p) (upd H p (.lst (xs ++ zs)))
theorem op_catR : OpR X (binaryOp .Add) (rCatR X.K) := fun pins s σ H x y v u Q I rx ry ⟨l, b, xs, zs, ex, ey, hl, hb, hz, q⟩ => by
  subst ex ey
  have e1 : v = Value.ref l := rx
  have e2 : u = Value.ref b := ry
  subst e1 e2
  obtain ⟨z1, i1, n1, r1, g1⟩ := (show ObjOk X.prog X.w H s.heap l (.lst xs) from hl.ok I.hok)
  obtain ⟨z2, i2, n2, r2, g2⟩ := (show ObjOk X.prog X.w H s.heap b (.lst zs) from hb.ok I.hok)
  have l1 := r1.length
  have l2 := r2.length
  refine PySem.P.add_list g1 g2 ?_ (by simp only [List.size_toArray]; omega)
  rw [show i1.toArray ++ i2.toArray = (i1 ++ i2).toArray by simp]
  exact ⟨.ref _, _, I.lnew (t' := s.toks) (r1.append r2) (by simp only [List.length_append]; omega), rfl, q _ I.fresh⟩
section
variable {a b : Expr} {pos : Pos} {β1 β2 α : Type} {T : Option γ} {k1 : β1 → Option γ} {k : β1 × β2 → Option γ} {Δ1 : β1 → Δs} {Δ2 : β1 → β2 → Δs} {Ee : α → Pd} {E1 : β1 → Pd} {E2 : β1 → β2 → Pd} {xs ys : β1 → β2 → List α}
theorem x_cat (ha : PE X a (tE W F Γ Δ T k1 E1 Δ1)) (hb : ∀ b1, PE X b (tE W F Γ (Δ1 b1) (k1 b1) (fun b2 => grd ((xs b1 b2).length + (ys b1 b2).length ≤ sizeLine) (k (b1, b2))) (E2 b1) (Δ2 b1))) (r1 : ∀ b1 b2, RdL (Δ2 b1 b2) (E1 b1) Ee (xs b1 b2)) (r2 : ∀ b1 b2, RdL (Δ2 b1 b2) (E2 b1 b2) Ee (ys b1 b2)) :
    PE X (.BinOp a .Add b pos) (tO W F Γ Δ T k (fun b => oL Ee (xs b.1 b.2 ++ ys b.1 b.2)) fun b => Δ2 b.1 b.2) :=
  x2_core (b_op op_catR) ha hb fun σ H Q ⟨ok, g, e, q⟩ => ⟨ok, g, e, fun b1 b2 v w H2 kb f ok2 hv hw => by
    obtain ⟨c, kb⟩ := grd_some kb
    obtain ⟨l, vs, ev, rv, zv, pv⟩ := r1 b1 b2 F H2 v ok2.hk hv
    obtain ⟨m, ws, ew, rw', zw, pw⟩ := r2 b1 b2 F H2 w ok2.hk hw
    refine ⟨l, m, vs, ws, ev, ew, rv, rw', by rw [← paired_len pv, ← paired_len pw]; exact c, fun n nn => ?_⟩
    obtain ⟨o, g'⟩ := ok2.newL nn (by rw [List.length_append]; exact c) (paired_app pv pw)
    exact q (b1, b2) _ _ kb (f.trans g'.st) (o.since f)⟩
end
/-! ### xs.append(e) -/
section
variable {o e : Expr} {apos cpos : Pos} {β1 β2 α : Type} {T : Option γ} {k1 : β1 → Option γ} {k : β1 × β2 → Option γ} {Δ1 : β1 → Δs} {Δ2 : β1 → β2 → Δs} {Ee : α → Pd} {xs : β1 → β2 → List α} {y : β1 → β2 → α} {v : V} {prm : Option Nat}
theorem x_app (j : Nat) (ho : PE X o (tE true F Γ Δ T k1 (fun _ => pV v) Δ1)) (he : ∀ b1, PE X e (tE true F Γ (Δ1 b1) (k1 b1) (fun b2 => grd ((xs b1 b2).length < sizeLine) (k (b1, b2))) (fun b2 => Ee (y b1 b2)) (Δ2 b1))) {xs0 : β1 → List α} {prm0 : Option Nat} (hj0 : ∀ b1, (Δ1 b1)[j]? = some ⟨v, oL Ee (xs0 b1), prm0⟩)
    (hj : ∀ b1 b2, (Δ2 b1 b2)[j]? = some ⟨v, oL Ee (xs b1 b2), prm⟩)
    (hbase : attributeBase o "append" X.env (eval o X.env) = eval o X.env := by rfl) (hline : (apos.endLine == cpos.line) = true := by rfl) (hs : starEach [e] X.env = (false, eval e X.env) :: starEach [] X.env := by rfl)
    (hfew : ((backTo cpos (starEach [e] X.env)).all (fun x => !x.1) && (backToKw cpos (keywordEach [] X.env)).all (fun x => x.1.isSome) && decide ([e].length + ([] : List Keyword).length + (if ([] : List Keyword).isEmpty then 0 else 1) < 30)) = true := by rfl) :
    PE X (.Call (.Attribute o "append" apos) [e] [] cpos) (tE true F Γ Δ T k (fun _ => pNon) fun b => (Δ2 b.1 b.2).set j ⟨v, oL Ee (xs b.1 b.2 ++ [y b.1 b.2]), prm⟩) :=
  (pe_bm PySem.F.plainAttrs_list PySem.F.slot_list_append PySem.F.type_list_append mt_append ho (pa_cons (pe_ex he) pa_nil hs) hbase hfew hline hs).wk fun σ H Q ⟨ok, g, e, q⟩ => ⟨ok, g, e, fun b1 u H1 kb1 f1 ok1 hu => by
    have hu : u = v := hu
    subst hu
    obtain ⟨_, p0, vs0, _, ev0, hp0, _, _⟩ := ok1.hk.at (hj0 b1)
    have ev0 : u = .ref p0 := ev0
    refine ⟨by rw [ev0]; exact .inl ⟨rfl, vs0, .inl (.inl hp0)⟩, b1, ok1, g, kb1, fun b2 w H2 kb2 f2 ok2 hw => ?_⟩
    obtain ⟨c, kb⟩ := grd_some kb2
    obtain ⟨G, ⟨p, vs, eG, ev, hp, z, pr⟩, _, turn⟩ := ok2.cell (hj b1 b2)
    have fzm : Fzs H2 (upd H2 p (.lst (vs ++ [w]))) := Fzs.mut hp fun z => z
    obtain ⟨ok3, f3⟩ := turn (upd H2 p (.lst (vs ++ [w]))) (oL Ee (xs b1 b2 ++ [y b1 b2])) (fun a o na e => by
      rw [upd_ne fun z => na (by rw [eG, z]; exact List.mem_singleton.mpr rfl)]; exact e)
      ⟨p, vs ++ [w], eG, ev, upd_same, by rw [List.length_append, List.length_singleton]; omega, paired_app (paired_mono (fun x _ => (Ee x).mono fzm) pr) (.cons ((Ee _).mono fzm hw) .nil)⟩
    exact ⟨p, vs, w, ev, rfl, hp, by rw [← paired_len pr]; exact c, q (b1, b2) .non _ kb ((f1.trans f2).trans f3) ok3 rfl⟩⟩
end
/-! ### None, isinstance -/
section
variable {a : Expr} {pos p : Pos} {j : Nat} {β α : Type} {T : Option γ} {k : β → Option γ} {Ee : α → Pd} {x : β → Option α} {Δ1 : β → Δs}
def NotNon {α : Type} (E : α → Pd) : Prop := ∀ x H v, (E x).pr H v → v ≠ .non
theorem nnInt : NotNon pInt := fun _ _ _ h z => by rw [h] at z; cases z
theorem nnStr : NotNon pStr := fun _ _ _ h z => by rw [h] at z; cases z
theorem nnL {α : Type} {E : α → Pd} : NotNon (pL E) := fun _ _ _ ⟨_, _, _, h, _⟩ z => by rw [h] at z; cases z
theorem nnD {α : Type} {E : α → Pd} : NotNon (pD E) := fun _ _ _ ⟨_, _, _, h, _⟩ z => by rw [h] at z; cases z
theorem opt_non {α : Type} {E : α → Pd} (nn : NotNon E) : ∀ {x : Option α} {H : Hp} {v : V}, (pOp E x).pr H v → decide (v = .non) = x.isNone
  | none, _, _, h => by rw [show _ = V.non from h]; rfl
  | some x, _, _, h => decide_eq_false (nn x _ _ h)
theorem x_isN (nn : NotNon Ee) (ha : PE X a (tE W F Γ Δ T k (fun b => pOp Ee (x b)) Δ1)) : PE X (.Compare a [.Is] [.Constant .none j p] pos) (tE W F Γ Δ T k (fun b => pBl (x b).isNone) Δ1) :=
  (pe_cmpR op_isN ha pe_non (nomark _)).wk fun σ H Q ⟨ok, g, e, q⟩ => ⟨ok, g, e, fun b v H1 kb f ok1 hv => ⟨rfl, by rw [opt_non nn hv]; exact q b _ H1 kb f ok1 rfl⟩⟩
theorem x_notN (nn : NotNon Ee) (ha : PE X a (tE W F Γ Δ T k (fun b => pOp Ee (x b)) Δ1)) : PE X (.Compare a [.IsNot] [.Constant .none j p] pos) (tE W F Γ Δ T k (fun b => pBl (!(x b).isNone)) Δ1) :=
  (pe_cmpR op_notN ha pe_non (nomark _)).wk fun σ H Q ⟨ok, g, e, q⟩ => ⟨ok, g, e, fun b v H1 kb f ok1 hv => ⟨rfl, by rw [opt_non nn hv]; exact q b _ H1 kb f ok1 rfl⟩⟩
theorem t_isN (nn : NotNon Ee) (ha : PE X a (tE W F Γ Δ T k (fun b => pOp Ee (x b)) Δ1)) : PT X (.Compare a [.Is] [.Constant .none j p] pos) (tTs W F Γ Δ T k (fun b => (x b).isNone) Δ1) :=
  (pt_cmpR op_isN ha pe_non (nomark _)).wk fun σ H Q ⟨ok, g, e, q⟩ => ⟨ok, g, e, fun b v H1 kb f ok1 hv => ⟨rfl, _, rfl, by rw [opt_non nn hv]; exact q b H1 kb f ok1⟩⟩
theorem t_notN (nn : NotNon Ee) (ha : PE X a (tE W F Γ Δ T k (fun b => pOp Ee (x b)) Δ1)) : PT X (.Compare a [.IsNot] [.Constant .none j p] pos) (tTs W F Γ Δ T k (fun b => !(x b).isNone) Δ1) :=
  (pt_cmpR op_notN ha pe_non (nomark _)).wk fun σ H Q ⟨ok, g, e, q⟩ => ⟨ok, g, e, fun b v H1 kb f ok1 hv => ⟨rfl, _, rfl, by rw [opt_non nn hv]; exact q b H1 kb f ok1⟩⟩
/-- what type a value of a kind has -/
def TyP (Δ : Δs) (p : Pd) (t : String) : Prop := ∀ K F H v, Hk F Δ H → p.pr H v → TyX K H v (.type t)
theorem tyInt {i : Int} : TyP Δ (pInt i) "int" := fun _ _ _ _ _ h => by rw [h]; exact .base (.int _)
theorem tyBl {i : Bool} : TyP Δ (pBl i) "bool" := fun _ _ _ _ _ h => by rw [h]; exact .base (.bl _)
theorem tyStr {i : Str} : TyP Δ (pStr i) "str" := fun _ _ _ _ _ h => by rw [h]; exact .base (.str _)
theorem tyNon : TyP Δ pNon "NoneType" := fun _ _ _ _ _ h => by rw [h]; exact .base .non
theorem tyL {α : Type} {E : α → Pd} {xs : List α} : TyP Δ (pL E xs) "list" := fun _ _ _ _ _ ⟨_, _, _, e, h, _⟩ => by rw [e]; exact .base (.frz h)
theorem tyD {α : Type} {E : α → Pd} {xs : List (Str × α)} : TyP Δ (pD E xs) "dict" := fun _ _ _ _ _ ⟨_, _, _, e, h, _⟩ => by rw [e]; exact .fDict h
theorem tyDI {α : Type} {E : α → Pd} {xs : List (Int × α)} : TyP Δ (pDI E xs) "dict" := fun _ _ _ _ _ ⟨_, _, _, e, h, _⟩ => by rw [e]; exact .fDict h
theorem tyT2 {α β : Type} {A : α → Pd} {B : β → Pd} {x : α × β} : TyP Δ (pT2 A B x) "tuple" := fun _ _ _ _ _ ⟨_, _, _, e, h, _⟩ => by rw [e]; exact .base (.tup h)
theorem tyT3 {α β δ : Type} {A : α → Pd} {B : β → Pd} {C : δ → Pd} {x : α × β × δ} : TyP Δ (pT3 A B C x) "tuple" := fun _ _ _ _ _ ⟨_, _, _, _, e, h, _⟩ => by rw [e]; exact .base (.tup h)
theorem tyTL {α : Type} {E : α → Pd} {xs : List α} : TyP Δ (pTL E xs) "tuple" := fun _ _ _ _ _ ⟨_, _, e, h, _⟩ => by rw [e]; exact .base (.tup h)
theorem tyOL {α : Type} {E : α → Pd} {xs : List α} {v : V} {prm : Option Nat} (j : Nat) (h : Δ[j]? = some ⟨v, oL E xs, prm⟩ := by rfl) : TyP Δ (pV v) "list" := fun K F H w hk e => by
  have e : w = v := e
  subst e
  obtain ⟨_, p, vs, _, ev, hp, z, q⟩ := hk.at h
  have ev : w = .ref p := ev
  rw [ev]
  exact .base (.lst hp)
theorem tyOD {α : Type} {E : α → Pd} {xs : List (Str × α)} {v : V} {prm : Option Nat} (j : Nat) (h : Δ[j]? = some ⟨v, oD E xs, prm⟩ := by rfl) : TyP Δ (pV v) "dict" := fun K F H w hk e => by
  have e : w = v := e
  subst e
  obtain ⟨_, p, vs, _, ev, hp, z, q⟩ := hk.at h
  have ev : w = .ref p := ev
  rw [ev]
  exact .base (.dK hp)
theorem x_isi {E1 : β → Pd} {cls : Str} {cn : String} {p1 p2 : Pos} (t : β → String) (r : β → Bool) (hm : X.mg "isinstance" = none) (hm2 : X.mg cls = none) (ha : PE X a (tE W F Γ Δ T k E1 Δ1)) (ty : ∀ b, TyP (Δ1 b) (E1 b) (t b)) (hr : ∀ b, kitB (t b) cn = some (r b)) (hb : bootBuiltins cls = some (.type cn)) (hg : Gl X "isinstance" := by rfl) (hg2 : Gl X cls := by rfl)
    (hn : cls ≠ "__name__" := by decide) (hdb : (cls == ("__debug__" : Str)) = false := by decide) (hs : starEach [a, .Name cls p2] X.env = (false, eval a X.env) :: starEach [.Name cls p2] X.env := by rfl) (hs2 : starEach [.Name cls p2] X.env = (false, eval (.Name cls p2) X.env) :: starEach [] X.env := by rfl) (hpl : (backTo pos (starEach [.Name cls p2] X.env)).any (·.1) = false := by rfl) :
    PE X (.Call (.Name "isinstance" p1) [a, .Name cls p2] [] pos) (tE W F Γ Δ T k (fun b => pBl (r b)) Δ1) :=
  (b_callB call_isi hg hm boot_isinstance (by decide) (by decide) hs hs2 hpl _ _ ha (pe_bltn (v := .ty cn) hg2 hm2 hb rfl hn hdb)).wk fun σ H Q ⟨ok, g, e, q⟩ => ⟨ok, g, e, fun b v H1 kb f ok1 hv => ⟨v, .ty cn, .type (t b), .type cn, r b, rfl, .ty cn, ty b X.K F H1 v ok1.hk hv, kit_ty (hr b), q b _ H1 kb f ok1 rfl⟩⟩
end
end
end L3
end
section
set_option Elab.async false
set_option linter.all false
set_option maxRecDepth 100000
set_option maxHeartbeats 8000000
namespace L3
open PySem PySem.Spec PyProof.Rows L2
/-! ### set(xs), a list of ints: the set with its order (what sorted wants) -/
abbrev eSet (w : World) : Obj := { cls := .type "set", dict := none, data := .set #[] 0 (.fresh 0 0 (!w.params.followText "set-order")) }
section
variable {P : Program} {w : World} {A : Around} {E : Value → Shared → Prop} {s : Shared}
theorem set_of_ints {l : Addr} {items : Array Value} (ns : List Int) {Q : Value → Shared → Prop} (hh : A.handled = none) (hl : s.heap.IsList l items) (hit : IntsAre items.toList ns) (hb : ns.length + 1 < scanBound)
    (fin : ∀ (h' : Heap) (tk c : Nat), SetR w h' s.heap.objs.size (fun j => decide (j ∈ ns)) c → c ≤ ns.length → (∀ b o, s.heap.get? b = some o → h'.get? b = some o) → Q (.ref s.heap.objs.size) { s with heap := h', toks := tk }) :
    wpAny (model P w) A (call (.type "set") [.ref l]) Q E s := by
  have size : items.size = ns.length := by have q := IntsAre.length hit; rw [Array.length_toList] at q; exact q
  have cs := PySem.F.called_set
  obtain ⟨c, tl, mro⟩ := cs.mro
  have m1 := cs.made
  have m2 := cs.sub
  refine wpAny_call (codeAny_of_tree (show wpAny _ _ (callAny (.type "set") _) _ _ _ from wpAny_pure ⟨Code.quiet_builtin _ (by decide +kernel), codeAny_builtin PySem.F.entry_type_call ?_⟩))
  rw [Around.under_plain (weight_type_call_type "set" [.ref l] []) rfl]
  have m3 := cs.notType
  have m4 := cs.canCreate
  have m5 := PySem.F.typeCall_set_1 (.ref l)
  repeat (any_goals (first | assumption | wp_step))
  refine codeAny_mono (code_set_led1 (.ref l) (E := E) (Q₁ := fun obj s₁ => obj = .ref s.heap.objs.size ∧ s₁ = { s with heap := s.heap.push (eSet w) }) ⟨rfl, rfl⟩) fun r s₁ hr => ?_
  cases r with
  | error e => exact hr
  | ok fl =>
    cases fl with
    | ret obj =>
      obtain ⟨rfl, rfl⟩ := hr
      have at1 : (s.heap.push (eSet w)).get? s.heap.objs.size = some (eSet w) := Heap.get?_push_size _ rfl
      have ty1 : Shared.TypeIs { s with heap := s.heap.push (eSet w) } (.ref s.heap.objs.size) "set" := ⟨_, at1, rfl⟩
      have m6 := cs.init.lookup
      have m7 := cs.init.bind (.ref s.heap.objs.size)
      repeat (any_goals (first | assumption | wp_step))
      refine codeAny_mono (codeAny_call_builtin (R := wants (fun r s₂ => r = .none ∧ ∃ h' tk c, s₂ = { s with heap := h', toks := tk } ∧ SetR w h' s.heap.objs.size (fun j => decide (j ∈ ns)) c ∧ c ≤ ns.length ∧ (∀ b o, s.heap.get? b = some o → h'.get? b = some o)) E) cs.init.plain PySem.F.entry_set_init (check_set_init_1 ty1 ?_)) fun r₂ s₂ hr₂ => ?_
      · obtain ⟨⟨oc, od, odt, osl⟩, ho, hc, nl, hd⟩ := hl
        simp only at hc hd
        subst hc hd
        have at2 : (s.heap.push (eSet w)).get? l = some { cls := .type "list", dict := od, data := .seq items nl, slots := osl } := Heap.get?_push_of_some _ ho
        have f1 := PySem.F.sub_list_set
        have f2 := PySem.F.sub_list_frozenset
        have f3 : (Value.type "list" == Value.type "dict") = false := by decide
        have il : (s.heap.push (eSet w)).IsList l items := ⟨_, at2, rfl, nl, rfl⟩
        unfold Builtin.«set.__init__» noKeywords Builtin.Frozenset.updateFrom
        generalize hPI : pyIter = PI
        wp_walk
        subst hPI
        refine wpAny_pyIter_list il (wpAny_bind (wpAny_runValue ?_))
        have lt : l < s.heap.objs.size := Heap.lt_size ho
        have h3 : A.in1.in1.in1.handled = none := by simp [hh]
        have sz : (s.heap.push (eSet w)).objs.size = s.heap.objs.size + 1 := Heap.size_push ..
        have ne1 : l ≠ (s.heap.push (eSet w)).objs.size := by rw [sz]; exact Nat.ne_of_lt (Nat.lt_succ_of_lt lt)
        have nf : s.heap.objs.size ∉ [(s.heap.push (eSet w)).objs.size, l] := by
          rw [sz]
          intro hm
          rcases List.mem_cons.mp hm with e | hm
          · exact absurd e (Nat.ne_of_lt (Nat.lt_succ_self _))
          · exact absurd (List.mem_singleton.mp hm) (Nat.ne_of_gt lt)
        have val : ∀ (i : Nat) (v : Value), items[i]? = some v → ∃ k t, ns[i]? = some k ∧ v = .int k t := fun i v hv => by
          have hi : i < ns.length := by rw [← size]; exact (Array.getElem?_eq_some_iff.mp hv).1
          obtain ⟨t, e⟩ := IntsAre.int_at hit i v (by rw [Array.getElem?_toList]; exact hv)
          refine ⟨ns[i], t, List.getElem?_eq_getElem hi, e.trans ?_⟩
          rw [List.getD_eq_getElem?_getD, List.getElem?_eq_getElem hi]; rfl
        refine set_update_ints ((Walks.list h3 _ l ne1 items).toS) s.heap.objs.size nf ns size hb val (items.size - 0) 0 _ (by omega) (Nat.zero_le _) ⟨⟨_, Heap.get?_push_size _ rfl, rfl, rfl⟩, il.push _⟩ ⟨0, Nat.le_refl 0, setR_new_at (Heap.get?_push_of_some _ at1)⟩ ?_
        intro s' c' mv hc' hS'
        obtain ⟨h', g2, d', tk', os'⟩ := s'
        have eg : g2 = s.gens := mv.gens
        have ed : d' = s.drawn := mv.drawn
        have eo : os' = s.os := mv.os
        subst eg ed eo
        show wpAny _ _ _ _ _ _
        refine wpAny_pure (show wpAny _ _ (ret Value.none) _ _ _ from wpAny_pure ⟨rfl, h', tk', c', rfl, hS', by rw [size] at hc'; exact hc', fun b o e => ?_⟩)
        have lb : b < s.heap.objs.size := Heap.lt_size e
        refine mv.heap b o (fun hm => ?_) (Heap.get?_push_of_some _ (Heap.get?_push_of_some _ e))
        rcases List.mem_cons.mp hm with e | hm
        · exact absurd e (Nat.ne_of_lt lb)
        · exact absurd (List.mem_singleton.mp hm) (by rw [sz]; exact Nat.ne_of_lt (Nat.lt_succ_of_lt lb))
      · cases r₂ with
        | error e => exact hr₂
        | ok f2 =>
          cases f2 with
          | ret r =>
            obtain ⟨rfl, h', tk, c', rfl, hS', hc', hk'⟩ := hr₂
            repeat (any_goals (first | assumption | wp_step))
            exact fin _ _ _ hS' hc' hk'
          | _ => exact hr₂.elim
    | _ => exact hr.elim
end
def rSetOf (w : World) : List V → Hp → VK → Prop := fun vs H Q => ∃ (a : Addr) (ns : List Int), vs = [V.ref a] ∧ Rd H a (.lst (ns.map V.int)) ∧ ns.length + 1 < scanBound ∧
  ∀ (p : Addr) (c : Nat), H p = none → c ≤ ns.length → Q (.ref p) (upd H p (SetO w p (fun j => decide (j ∈ ns)) c))
section
variable {X : Cx}
theorem cr_setOf (hc : X.calm = true) : CallR X (.type "set") (rSetOf X.w) := fun pins s σ H vs us Q I r ⟨a, ns, e, hr, hb, q⟩ => by
  subst e
  rw [Vals.ref1 r]
  obtain ⟨its, rv, hl, hz⟩ := I.list (.inl hr)
  refine set_of_ints ns (I.ok.hd hc) hl.isList rv.ints hb fun h' tk c hS hc' kp => ?_
  have hp : H s.heap.objs.size = none := I.hok.fresh (Nat.le_refl _)
  exact ⟨.ref _, upd H s.heap.objs.size (SetO X.w s.heap.objs.size (fun j => decide (j ∈ ns)) c), I.laid (t' := tk) kp (Nat.le_refl _) (setO_new hS), rfl, q _ c hp hc'⟩
variable {W : Bool} {F : Fm} {Γ : Gm} {Δ : Δs} {γ : Type}
/-- a set of ints of one's own; locked it says nothing -/
def pTrue : Pd := ⟨fun _ _ => True, fun _ h => h⟩
def oSet (w : World) (xs : List Int) : Od where
  pr G H v := ∃ p n, G = [p] ∧ v = .ref p ∧ H p = some (SetO w p (fun j => decide (j ∈ xs)) n) ∧ n ≤ xs.length
  pd := pTrue
  frame := fun ⟨p, n, eg, ev, h, z⟩ k _ => ⟨p, n, eg, ev, k p (by rw [eg]; exact List.mem_singleton.mpr rfl) _ h, z⟩
  cells := fun ⟨p, n, eg, ev, h, z⟩ => one_cells eg h trivial
  lockd := fun _ _ _ => trivial
def sideL (xs : List Int) : List Int := srt xs.eraseDups
def u64 (n : Nat) : Bool := decide (n < 64)
section
variable {a : Expr} {p pos : Pos} {β : Type} {T : Option γ} {E1 : β → Pd} {xs : β → List Int} {Δ1 : β → Δs}
theorem x_set {k : β → Option γ} (hm : X.mg "set" = none) (ha : PE X a (tE W F Γ Δ T (fun b => grd ((xs b).length + 1 < scanBound) (k b)) E1 Δ1)) (rd : ∀ b, RdL (Δ1 b) (E1 b) pInt (xs b)) (hg : Gl X "set" := by rfl) (hs : starEach [a] X.env = (false, eval a X.env) :: starEach [] X.env := by rfl) (hc : X.calm = true := by rfl) :
    PE X (.Call (.Name "set" p) [a] [] pos) (tO W F Γ Δ T k (fun b => oSet X.w (xs b)) Δ1) :=
  (u_callTy (cr_setOf hc) hg hm (by decide +kernel) (by decide) (by decide) hs _ ha).wk fun σ H Q ⟨ok, g, e, q⟩ => ⟨ok, g, e, fun b v H' kb f ok' hv => by
    obtain ⟨c, kb⟩ := grd_some kb
    obtain ⟨l, vs, ev, rv, z, pr⟩ := rd b F H' v ok'.hk hv
    have e := paired_ints pr
    subst e
    rw [ev]
    refine ⟨l, xs b, rfl, rv, c, fun n m nn hm => ?_⟩
    have g' : Gr H' (upd H' n (SetO X.w n (fun j => decide (j ∈ xs b)) m)) := Gr.new nn
    exact q b _ _ kb (f.trans g'.st) ((ok'.add (v := .ref n) (d := oSet X.w (xs b)) g' (List.nodup_cons.mpr ⟨List.not_mem_nil, List.nodup_nil⟩) (fun a ha => by rw [List.mem_singleton.mp ha]; exact nn) ⟨n, m, rfl, rfl, upd_same, hm⟩).since f)⟩
end
end
theorem dups_nodup : ∀ xs : List Int, xs.eraseDups.Nodup := fun xs => by
  induction h : xs.length using Nat.strongRecOn generalizing xs with
  | _ n ih =>
    cases xs with
    | nil => simp
    | cons x xs =>
      rw [List.eraseDups_cons]
      refine List.nodup_cons.mpr ⟨fun hm => ?_, ih _ ?_ _ rfl⟩
      · have := List.mem_eraseDups.mp hm
        simp at this
      · have := List.length_filter_le (fun b => !b == x) xs
        simp only [List.length_cons] at h
        omega
theorem sideL_lt (xs : List Int) : (sideL xs).Pairwise (· < ·) := by
  have h1 := srt_le xs.eraseDups
  have h2 : (sideL xs).Nodup := (srt_perm _).nodup_iff.mpr (dups_nodup xs)
  exact (List.pairwise_and_iff.mpr ⟨h1, h2⟩).imp fun ⟨a, b⟩ => by omega
theorem sideL_mem (xs : List Int) (k : Int) : k ∈ sideL xs ↔ k ∈ xs := by
  unfold sideL
  rw [(srt_perm _).mem_iff, List.mem_eraseDups]
theorem lt_uniq : ∀ {xs ys : List Int}, xs.Pairwise (· < ·) → ys.Pairwise (· < ·) → (∀ k, k ∈ xs ↔ k ∈ ys) → xs = ys := fun {xs ys} h1 h2 h => by
  have n1 : xs.Nodup := h1.imp fun h => by omega
  have n2 : ys.Nodup := h2.imp fun h => by omega
  exact sorted_eq ((List.perm_ext_iff_of_nodup n1 n2).mpr h) (h1.imp fun h => by omega) (h2.imp fun h => by omega)
end L3
end
section
set_option Elab.async false
set_option linter.all false
set_option maxRecDepth 100000
set_option maxHeartbeats 8000000
namespace L3
open PySem PySem.Spec PyProof.Rows L2
section
variable {P : Program} {w : World} {A : Around} {E : Value → Shared → Prop} {s : Shared}
/-- sorted(s), a set of ints, however many -/
theorem sorted_of_set {a : Addr} {S : Int → Bool} {n : Nat} {Q : Value → Shared → Prop} (R : SetR w s.heap a S n) (hh : A.handled = none)
    (hQ : ∀ s' p (out : List Value) (c : Nat) (ns : List Int), (∀ b o, s.heap.get? b = some o → s'.heap.get? b = some o) → s'.gens = s.gens → s'.os = s.os → s.heap.objs.size ≤ p → s'.heap.get? p = some (seqObj "list" out.toArray c) → IntsAre out ns → ns.Pairwise (· < ·) → (∀ k, k ∈ ns ↔ S k = true) → ns.length ≤ sizeLine → Q (.ref p) s') :
    wpAny (model P w) A (call (.builtin "sorted") [.ref a]) Q E s := by
  obtain ⟨o, es, ep, t, ho, hex, hd, good, nd, mem, small, fits, hn, ris, led⟩ := R
  refine Calls.call_function_entry kind_sorted plain_sorted entry_sorted (args_sorted1 _) ?_
  unfold Builtin.«sorted»
  refine wpAny_bind (m := checkCount "sorted" 1 1 _) (wpAny_pure (wpAny_bind (collect_set (A := A.in1) hh ⟨o, ho, hex.1, hd⟩ fits small ris led fun s1 vs k1 hz g1 o1 pm => ?_)))
  have len : vs.length < scanBound := by rw [pm.length_eq, List.length_map, Array.length_toList]; exact small
  have big : vs.length ≤ sizeLine := Nat.le_of_lt (Nat.lt_of_lt_of_le len (by decide))
  have shape : ∀ v ∈ vs, ∃ i t, v = Value.int i t := fun v hv => by
    obtain ⟨e, he, q⟩ := List.mem_map.mp (pm.mem_iff.mp hv)
    obtain ⟨k, tk, h1, _⟩ := good e he
    exact ⟨k, tk, q.symm.trans h1⟩
  have hI : IntsAre vs (vs.map SrtO.iv) := SrtO.ints_iv shape
  have keys : (vs.map SrtO.iv).Perm (es.toList.map keyOf) := by
    have q := pm.map SrtO.iv
    rw [List.map_map] at q
    refine q.trans (List.Perm.of_eq (List.map_congr_left fun e he => ?_))
    obtain ⟨k, tk, h1, h2⟩ := good e he
    show SrtO.iv e.2 = keyOf e
    rw [key_vInt, h1]
    rfl
  refine wpAny_bind (wpAny_newList ?_ big)
  have at1 : (s1.heap.push (seqObj "list" vs.toArray 0)).get? s1.heap.objs.size = some (seqObj "list" vs.toArray 0) := Heap.get?_push_size _ rfl
  refine wpAny_bind (wpAny_holding (wpAny_call_entry slot_list_sort ⟨_, at1, rfl⟩ entry_list_sort (SrtO.list_sort_ord SrtO.swo_int at1 big (fun h2 => SrtO.ints_sortable hI h2) fun out hs hb => ⟨_, rfl, ?_⟩) (args_list_sort _)))
  obtain ⟨i1, i2, i3⟩ := SrtO.ints_out hI hs hb
  have pn := i2.trans keys
  obtain ⟨c, hc⟩ := sortedHeap_at (vs := vs) (out := out.toArray) at1
  refine wpAny_pure ⟨_, rfl, hQ _ s1.heap.objs.size out c (out.map SrtO.iv) (fun b u e => ?_) g1 o1 hz hc i1 ?_ (fun k => by rw [pn.mem_iff, ← mem k]) ?_⟩
  · have q := k1 b u e
    have lt := Heap.lt_size q
    show (sortedHeap (s1.heap.push (seqObj "list" vs.toArray 0)) s1.heap.objs.size vs out.toArray).get? b = some u
    rw [sortedHeap_old (Nat.ne_of_lt lt) (by rw [size_push']; exact Nat.lt_succ_of_lt lt)]
    exact Heap.get?_push_of_some _ q
  · have n2 : (out.map SrtO.iv).Nodup := pn.nodup_iff.mpr nd
    exact (List.pairwise_and_iff.mpr ⟨i3, n2⟩).imp fun ⟨x, y⟩ => by omega
  · rw [pn.length_eq, List.length_map, Array.length_toList]
    exact Nat.le_of_lt (Nat.lt_of_lt_of_le small (by decide))
end
def rSortSet (w : World) : List V → Hp → VK → Prop := fun vs H Q => ∃ (a : Addr) (S : Int → Bool) (n : Nat), vs = [V.ref a] ∧ H a = some (SetO w a S n) ∧
  ∀ (ns : List Int) (p : Addr), ns.Pairwise (· < ·) → (∀ k : Int, k ∈ ns ↔ S k = true) → ns.length ≤ sizeLine → H p = none → Q (.ref p) (upd H p (.lst (ns.map V.int)))
section
variable {X : Cx} {W : Bool} {F : Fm} {Γ : Gm} {Δ : Δs} {γ : Type}
theorem cr_sortSet (hc : X.calm = true) : CallR X (.builtin "sorted") (rSortSet X.w) := fun pins s σ H vs us Q I r ⟨a, S, n, e, ha, q⟩ => by
  subst e
  rw [Vals.ref1 r]
  refine sorted_of_set (setO_get I ha) (I.ok.hd hc) fun s' p out c ns kp hg ho hp hat hi hs hm hl => ?_
  have hn : H p = none := I.hok.fresh hp
  have z : (ns.map V.int).length ≤ sizeLine := by rw [List.length_map]; exact hl
  have J : Inv X pins σ (upd H p (.lst (ns.map V.int))) { s with heap := s'.heap, gens := s'.gens, drawn := s'.drawn, toks := s'.toks } :=
    I.call (ch := []) (Un.laid kp hp hn) (I.hok.laid kp hp ⟨z, out, c, vals_of_ints hi, hat⟩) (by rw [hg]; exact I.bare) (fun _ z => nomatch z)
  have e : s' = { s with heap := s'.heap, gens := s'.gens, drawn := s'.drawn, toks := s'.toks } := by cases s'; cases s; cases ho; rfl
  rw [e]
  exact ⟨.ref p, _, J, rfl, q ns p hs hm hl hn⟩
section
variable {a : Expr} {p pos : Pos} {β : Type} {T : Option γ} {xs : β → List Int} {Δ1 : β → Δs} {k : β → Option γ}
/-- sorted(set(..)) -/
theorem x_sortedSet (hm : X.mg "sorted" = none) (ha : PE X a (tO W F Γ Δ T k (fun b => oSet X.w (xs b)) Δ1)) (hg : Gl X "sorted" := by rfl) (hs : starEach [a] X.env = (false, eval a X.env) :: starEach [] X.env := by rfl) (hc : X.calm = true := by rfl) :
    PE X (.Call (.Name "sorted" p) [a] [] pos) (tO W F Γ Δ T k (fun b => oL pInt (sideL (xs b))) Δ1) :=
  (u_callB (cr_sortSet hc) hg hm (by decide +kernel) (by decide) (by decide) hs _ ha).wk fun σ H Q ⟨ok, g, e, q⟩ => ⟨ok, g, e, fun b v H' kb f okn => by
    have ok' := okn.ok
    obtain ⟨_, l, n, eG, ev, hl, _⟩ := ok'.at (j := 0) rfl
    have ev : v = .ref l := ev
    rw [ev]
    refine ⟨l, _, n, rfl, hl, fun ns m h1 h2 h3 nm => ?_⟩
    have e : ns = sideL (xs b) := lt_uniq h1 (sideL_lt _) fun k => by rw [h2 k, sideL_mem]; exact decide_eq_true_iff
    subst e
    obtain ⟨o, g'⟩ := (Ok.less ok' (.cons _ (List.Sublist.refl _))).newL nm h3 (ints_paired (H := H') (sideL (xs b)))
    exact q b _ _ kb (f.trans g'.st) (o.since f)⟩
/-- len(set(..)) is not here: sets are asked by in -/
theorem v_inSet {β1 β2 : Type} {Δ2 : β1 → β2 → Δs} {i : β1 → Int} {v0 : V} {xs : β1 → β2 → List Int} {prm : Option Nat} (j : Nat) (hj : ∀ b1 b2, (Δ2 b1 b2)[j]? = some ⟨v0, oSet X.w (xs b1 b2), prm⟩) :
    ∀ b1 b2 σ v w H Q, Ok F Γ (Δ2 b1 b2) σ H → (pInt (i b1)).pr H v → (pV v0).pr H w → (∀ u, (pBl (decide (i b1 ∈ xs b1 b2))).pr H u → Q u H) → rSIn X.w v w H Q :=
  fun b1 b2 σ v w H Q ok hv hw q => by
    obtain ⟨_, l, n, eG, ev, hl, _⟩ := ok.at (hj b1 b2)
    have hw : w = v0 := hw
    exact ⟨i b1, l, _, n, hv, hw.trans ev, hl, q _ rfl⟩
end
end
end L3
end
section
set_option Elab.async false
set_option linter.all false
set_option maxRecDepth 100000
set_option maxHeartbeats 4000000
namespace L3
open PySem PySem.Spec PyProof.Rows L2
section
variable {X : Cx} {W : Bool} {F : Fm} {Γ : Gm} {Δ : Δs} {γ : Type}
/-! ### kinds that hang not on the heap -/
def FlatE {β : Type} (E : β → Pd) : Prop := ∀ b H H' v, (E b).pr H v → (E b).pr H' v
theorem feInt {β : Type} {i : β → Int} : FlatE fun b => pInt (i b) := fun _ _ _ _ h => h
theorem feBl {β : Type} {i : β → Bool} : FlatE fun b => pBl (i b) := fun _ _ _ _ h => h
theorem feStr {β : Type} {i : β → Str} : FlatE fun b => pStr (i b) := fun _ _ _ _ h => h
theorem feNon {β : Type} : FlatE fun _ : β => pNon := fun _ _ _ _ h => h
/-- a cell is locked: where one stands then -/
theorem Ok.lockC {σ : SS} {H : Hp} {i j : Nat} {c : Cell} (ok : Ok F Γ Δ σ H) (hj : Δ[j]? = some c) (hi : Γ[i]? = some (some (pV c.v))) : ∃ G, G.Nodup ∧ c.d.pr G H c.v ∧ ∀ H1, (∀ a, a ∉ G → H1 a = H a) → (∀ a ∈ G, ∀ u, H a = some u → ∃ o, H1 a = some (.frz o u)) → Ok F (Γ.set i (some c.d.pd)) (Δ.eraseIdx j) σ H1 := by
  obtain ⟨⟨Δ0, e, k⟩, n⟩ := ok
  subst e
  obtain ⟨A, x, B, e0, el, ex⟩ := map_at hj
  subst e0
  subst ex
  have k1 := k.perm mid_perm
  have hc := k1.del x List.mem_cons_self
  refine ⟨x.G, k1.ndup.1, hc, fun H1 h1 h2 => ?_⟩
  obtain ⟨r, fz, _⟩ := k1.rest (H' := H1) (fun a o na e => by rw [h1 a na]; exact e) (fun a ha => by
    obtain ⟨u, hu, _⟩ := x.d.cells hc a ha
    obtain ⟨o, ho⟩ := h2 a ha u hu
    exact ⟨_, ho⟩)
  refine ⟨⟨A ++ B, by rw [← el]; exact map_erase, r⟩, by rw [List.length_set]; exact n.len, fun m p e => ?_⟩
  by_cases h : m = i
  · subst h
    rw [List.getElem?_set_self (List.getElem?_eq_some_iff.mp hi).1] at e
    cases e
    obtain ⟨w, hs, hv⟩ := n.gam m _ hi
    have hv : w = x.v := hv
    subst hv
    exact ⟨_, hs, x.d.lockd hc h1 h2⟩
  · rw [List.getElem?_set_ne (fun z => h z.symm)] at e
    obtain ⟨w, hs, hv⟩ := n.gam m p e
    exact ⟨w, hs, p.mono fz hv⟩
/-! ### a whole group of cells is locked for an expression -/
def tLkE : List Addr → TE → TE
  | [], t => t
  | _ :: G, t => tLockE (tLkE G t)
theorem pe_lkE {e : Expr} {t : TE} (h : PE X e t) : ∀ G : List Addr, PE X e (tLkE G t)
  | [] => h
  | _ :: G => pe_lock (pe_lkE h G)
theorem tLkE_of {t : TE} {σ : SS} (mono : ∀ H (Q Q' : VK), (∀ v H', Q v H' → Q' v H') → t σ H Q → t σ H Q') : ∀ {G : List Addr} {H : Hp} {Q : VK}, G.Nodup → (∀ a ∈ G, ∃ u, H a = some u ∧ Mut (some u)) →
    (∀ H1, (∀ a, a ∉ G → H1 a = H a) → (∀ a ∈ G, ∀ u, H a = some u → ∃ o, H1 a = some (.frz o u)) → t σ H1 fun v H' => (∀ a ∈ G, H' a = H1 a) ∧ ∀ H2 : Hp, (∀ a, a ∉ G → H2 a = H' a) → (∀ a ∈ G, H2 a = H a) → Q v H2) → tLkE G t σ H Q
  | [], H, Q, _, _, k => mono H _ _ (fun v H' h => h.2 H' (fun _ _ => rfl) fun _ h => absurd h List.not_mem_nil) (k H (fun _ _ => rfl) fun _ h => absurd h List.not_mem_nil)
  | d :: G, H, Q, nd, hm, k => by
    obtain ⟨nd1, nd2⟩ := List.nodup_cons.mp nd
    obtain ⟨u, hu, mu⟩ := hm d List.mem_cons_self
    refine ⟨d, u, hu, mu, fun od => tLkE_of mono nd2 (fun a ha => ?_) fun H1 h1 h2 => ?_⟩
    · rw [upd_ne (fun e => nd1 (by rw [← e]; exact ha))]
      exact hm a (List.mem_cons_of_mem _ ha)
    · have k1 : ∀ a, a ∉ d :: G → H1 a = H a := fun a ha => by
        rw [h1 a (fun z => ha (List.mem_cons_of_mem _ z)), upd_ne (fun e => ha (by rw [e]; exact List.mem_cons_self))]
      have k2 : ∀ a ∈ d :: G, ∀ w, H a = some w → ∃ o, H1 a = some (.frz o w) := fun a ha w hw => by
        by_cases e : a = d
        · subst e
          rw [hu] at hw
          cases hw
          exact ⟨od, by rw [h1 a nd1, upd_same]⟩
        · rcases List.mem_cons.mp ha with z | z
          · exact absurd z e
          · exact h2 a z w (by rw [upd_ne e]; exact hw)
      refine mono _ _ _ (fun v H' q => ⟨fun a ha => q.1 a (List.mem_cons_of_mem _ ha), fun H2 r1 r2 => ⟨by rw [r1 d nd1, q.1 d List.mem_cons_self, h1 d nd1, upd_same], q.2 _ (fun a ha => ?_) (fun a ha => ?_)⟩⟩) (k H1 k1 k2)
      · rw [upd_ne (fun e => ha (by rw [e]; exact List.mem_cons_self)), r1 a fun z => ha (List.mem_cons_of_mem _ z)]
      · by_cases e : a = d
        · subst e; rw [upd_same, hu]
        · rcases List.mem_cons.mp ha with z | z
          · exact absurd z e
          · rw [upd_ne e, r2 a z, upd_ne e]
/-! ### tests while a group is locked -/
def tLockT (t : TT) : TT := fun σ H Q => ∃ d u, H d = some u ∧ Mut (some u) ∧ ∀ od, t σ (upd H d (.frz od u)) fun b H' => H' d = some (.frz od u) ∧ Q b (upd H' d u)
theorem pt_lockT {e : Expr} {t : TT} (h : PT X e t) : PT X e (tLockT t) := ⟨fun pins s σ H Q I ⟨d, u, hd, mu, hw⟩ => by
  obtain ⟨od, I1⟩ := I.lock hd mu
  exact thn (h.run pins s σ _ _ I1 (hw od)) fun b s1 ⟨H1, I2, e2, q⟩ => ⟨_, I2.unlock e2 (I.nofrz hd mu), q⟩⟩
def tLkT : List Addr → TT → TT
  | [], t => t
  | _ :: G, t => tLockT (tLkT G t)
theorem pt_lkT {e : Expr} {t : TT} (h : PT X e t) : ∀ G : List Addr, PT X e (tLkT G t)
  | [] => h
  | _ :: G => pt_lockT (pt_lkT h G)
theorem tLkT_of {t : TT} {σ : SS} (mono : ∀ H (Q Q' : Bool → Hp → Prop), (∀ v H', Q v H' → Q' v H') → t σ H Q → t σ H Q') : ∀ {G : List Addr} {H : Hp} {Q : Bool → Hp → Prop}, G.Nodup → (∀ a ∈ G, ∃ u, H a = some u ∧ Mut (some u)) →
    (∀ H1, (∀ a, a ∉ G → H1 a = H a) → (∀ a ∈ G, ∀ u, H a = some u → ∃ o, H1 a = some (.frz o u)) → t σ H1 fun v H' => (∀ a ∈ G, H' a = H1 a) ∧ ∀ H2 : Hp, (∀ a, a ∉ G → H2 a = H' a) → (∀ a ∈ G, H2 a = H a) → Q v H2) → tLkT G t σ H Q
  | [], H, Q, _, _, k => mono H _ _ (fun v H' h => h.2 H' (fun _ _ => rfl) fun _ h => absurd h List.not_mem_nil) (k H (fun _ _ => rfl) fun _ h => absurd h List.not_mem_nil)
  | d :: G, H, Q, nd, hm, k => by
    obtain ⟨nd1, nd2⟩ := List.nodup_cons.mp nd
    obtain ⟨u, hu, mu⟩ := hm d List.mem_cons_self
    refine ⟨d, u, hu, mu, fun od => tLkT_of mono nd2 (fun a ha => ?_) fun H1 h1 h2 => ?_⟩
    · rw [upd_ne (fun e => nd1 (by rw [← e]; exact ha))]
      exact hm a (List.mem_cons_of_mem _ ha)
    · have k1 : ∀ a, a ∉ d :: G → H1 a = H a := fun a ha => by
        rw [h1 a (fun z => ha (List.mem_cons_of_mem _ z)), upd_ne (fun e => ha (by rw [e]; exact List.mem_cons_self))]
      have k2 : ∀ a ∈ d :: G, ∀ w, H a = some w → ∃ o, H1 a = some (.frz o w) := fun a ha w hw => by
        by_cases e : a = d
        · subst e
          rw [hu] at hw
          cases hw
          exact ⟨od, by rw [h1 a nd1, upd_same]⟩
        · rcases List.mem_cons.mp ha with z | z
          · exact absurd z e
          · exact h2 a z w (by rw [upd_ne e]; exact hw)
      refine mono _ _ _ (fun v H' q => ⟨fun a ha => q.1 a (List.mem_cons_of_mem _ ha), fun H2 r1 r2 => ⟨by rw [r1 d nd1, q.1 d List.mem_cons_self, h1 d nd1, upd_same], q.2 _ (fun a ha => ?_) (fun a ha => ?_)⟩⟩) (k H1 k1 k2)
      · rw [upd_ne (fun e => ha (by rw [e]; exact List.mem_cons_self)), r1 a fun z => ha (List.mem_cons_of_mem _ z)]
      · by_cases e : a = d
        · subst e; rw [upd_same, hu]
        · rcases List.mem_cons.mp ha with z | z
          · exact absurd z e
          · rw [upd_ne e, r2 a z, upd_ne e]
theorem lk_back {G : List Addr} {H H1 H' H2 : Hp} (h1 : ∀ a, a ∉ G → H1 a = H a) (st : Gr H1 H') (r1 : ∀ a, a ∉ G → H2 a = H' a) (r2 : ∀ a ∈ G, H2 a = H a) : Gr H H2 := fun a o e => by
  by_cases ha : a ∈ G
  · rw [r2 a ha]; exact e
  · rw [r1 a ha]
    exact st a o (by rw [h1 a ha]; exact e)
theorem lk_kept {G : List Addr} {H H1 H' : Hp} (hm : ∀ a ∈ G, ∃ o, H a = some o ∧ Mut (some o)) (h2 : ∀ a ∈ G, ∀ u, H a = some u → ∃ o, H1 a = some (.frz o u)) (st : Gr H1 H') : ∀ a ∈ G, H' a = H1 a := fun a ha => by
  obtain ⟨u, hu, _⟩ := hm a ha
  obtain ⟨o, ho⟩ := h2 a ha u hu
  rw [ho]
  exact st a _ ho
/-- the cell at j is locked for the expression e, which makes nothing of it -/
theorem x_lockG {e : Expr} {β : Type} {T : Option γ} {k : β → Option γ} {E : β → Pd} {v : V} {d : Od} {prm : Option Nat} (j i : Nat) (fe : FlatE E)
    (he : PE X e (tE false F (Γ.set i (some d.pd)) (Δ.eraseIdx j) T k E fun _ => Δ.eraseIdx j)) (hj : Δ[j]? = some ⟨v, d, prm⟩ := by rfl) (hi : Γ[i]? = some (some (pV v)) := by rfl) : PE X e (tE W F Γ Δ T k E fun _ => Δ) :=
  (pe_ex fun G => pe_lkE he G).wk fun σ H Q ⟨ok, g, e, q⟩ => by
    obtain ⟨G, nd, hc, lk⟩ := ok.lockC hj hi
    refine ⟨G, tLkE_of (fun H Q Q' h ⟨a, g, b, c⟩ => ⟨a, g, b, fun b v H' k s o p => h v H' (c b v H' k s o p)⟩) nd (d.cells hc) fun H1 h1 h2 => ⟨lk H1 h1 h2, g, e, fun b w H' kb st ok2 hw => ⟨lk_kept (d.cells hc) h2 st.gr, fun H2 r1 r2 => ?_⟩⟩⟩
    have g2 := lk_back h1 st.gr r1 r2
    exact q b w H2 kb g2.st (ok.gr g2) (fe b _ _ w hw)
theorem t_lockG {e : Expr} {β : Type} {T : Option γ} {k : β → Option γ} {c : β → Bool} {v : V} {d : Od} {prm : Option Nat} (j i : Nat)
    (he : PT X e (tTs false F (Γ.set i (some d.pd)) (Δ.eraseIdx j) T k c fun _ => Δ.eraseIdx j)) (hj : Δ[j]? = some ⟨v, d, prm⟩ := by rfl) (hi : Γ[i]? = some (some (pV v)) := by rfl) : PT X e (tTs W F Γ Δ T k c fun _ => Δ) :=
  (pt_ex fun G => pt_lkT he G).wk fun σ H Q ⟨ok, g, e, q⟩ => by
    obtain ⟨G, nd, hc, lk⟩ := ok.lockC hj hi
    refine ⟨G, tLkT_of (fun H Q Q' h ⟨a, g, b, c⟩ => ⟨a, g, b, fun b H' k s o => h _ H' (c b H' k s o)⟩) nd (d.cells hc) fun H1 h1 h2 => ⟨lk H1 h1 h2, g, e, fun b H' kb st ok2 => ⟨lk_kept (d.cells hc) h2 st.gr, fun H2 r1 r2 => ?_⟩⟩⟩
    have g2 := lk_back h1 st.gr r1 r2
    exact q b H2 kb g2.st (ok.gr g2)
/-- kinds of things of one's own that hang on their own places alone -/
def FlatO {β : Type} (D : β → Od) : Prop := ∀ b G H H' v, (D b).pr G H v → (∀ a ∈ G, H' a = H a) → (D b).pr G H' v
theorem foL {β α : Type} {E : α → Pd} {x : β → List α} (fe : FlatE E) : FlatO fun b => oL E (x b) := fun b G H H' v ⟨p, vs, eg, ev, h, z, q⟩ k => ⟨p, vs, eg, ev, by rw [k p (by rw [eg]; exact List.mem_singleton.mpr rfl)]; exact h, z, paired_mono (fun x u => fe x H H' u) q⟩
/-- .. new things are made under the lock -/
theorem o_lockG {e : Expr} {β : Type} {T : Option γ} {k : β → Option γ} {D : β → Od} {v : V} {d : Od} {prm : Option Nat} (j i : Nat) (fo : FlatO D)
    (he : PE X e (tO false F (Γ.set i (some d.pd)) (Δ.eraseIdx j) T k D fun _ => Δ.eraseIdx j)) (hj : Δ[j]? = some ⟨v, d, prm⟩ := by rfl) (hi : Γ[i]? = some (some (pV v)) := by rfl) : PE X e (tO W F Γ Δ T k D fun _ => Δ) :=
  (pe_ex fun G => pe_lkE he G).wk fun σ H Q ⟨ok, g, e, q⟩ => by
    obtain ⟨G, nd, hc, lk⟩ := ok.lockC hj hi
    refine ⟨G, tLkE_of (fun H Q Q' h ⟨a, g, b, c⟩ => ⟨a, g, b, fun b v H' k s o => h v H' (c b v H' k s o)⟩) nd (d.cells hc) fun H1 h1 h2 => ⟨lk H1 h1 h2, g, e, fun b w H' kb st okn => ⟨lk_kept (d.cells hc) h2 st.gr, fun H2 r1 r2 => ?_⟩⟩⟩
    have g2 := lk_back h1 st.gr r1 r2
    obtain ⟨Δ0, Gn, _, kn, nw, _⟩ := okn
    have out : ∀ a ∈ Gn, a ∉ G := fun a ha hg => by
      obtain ⟨u, hu, _⟩ := d.cells hc a hg
      obtain ⟨o, ho⟩ := h2 a hg u hu
      rw [nw rfl a ha] at ho; cases ho
    refine q b w H2 kb g2.st (ok.add g2 kn.ndup.1 (fun a ha => ?_) (fo b Gn H' H2 w (kn.del _ List.mem_cons_self) fun a ha => r1 a (out a ha)))
    rw [← h1 a (out a ha)]
    exact nw rfl a ha
end
end L3
end
section
set_option Elab.async false
set_option linter.all false
set_option maxRecDepth 100000
set_option maxHeartbeats 4000000
namespace L3
open PySem PySem.Spec PyProof.Rows L2
section
variable {X : Cx} {W : Bool} {F : Fm} {Γ : Gm} {Δ : Δs} {γ : Type}
/-! ### lists of lists of one's own -/
inductive Own3 {α : Type} (D : α → Od) (H : Hp) : List α → List V → List (List Addr) → Prop
  | nil : Own3 D H [] [] []
  | cons {x : α} {xs : List α} {v : V} {vs : List V} {g : List Addr} {gs : List (List Addr)} : (D x).pr g H v → Own3 D H xs vs gs → Own3 D H (x :: xs) (v :: vs) (g :: gs)
theorem Own3.len {α : Type} {D : α → Od} {H : Hp} : ∀ {xs : List α} {vs : List V} {gs : List (List Addr)}, Own3 D H xs vs gs → xs.length = vs.length
  | _, _, _, .nil => rfl
  | _, _, _, .cons _ t => congrArg (· + 1) t.len
theorem Own3.frame {α : Type} {D : α → Od} {H H' : Hp} (f : Fzs H H') : ∀ {xs : List α} {vs : List V} {gs : List (List Addr)}, Own3 D H xs vs gs → (∀ a ∈ gs.flatten, ∀ o, H a = some o → H' a = some o) → Own3 D H' xs vs gs
  | _, _, _, .nil, _ => .nil
  | _, _, _, .cons r t, k => by
    rw [List.flatten_cons] at k
    exact .cons ((D _).frame r (fun a ha => k a (List.mem_append_left _ ha)) f) (Own3.frame f t fun a ha => k a (List.mem_append_right _ ha))
theorem Own3.cells {α : Type} {D : α → Od} {H : Hp} : ∀ {xs : List α} {vs : List V} {gs : List (List Addr)}, Own3 D H xs vs gs → ∀ a ∈ gs.flatten, ∃ o, H a = some o ∧ Mut (some o)
  | _, _, _, .nil, a, h => by simp at h
  | _, _, _, .cons r t, a, h => by
    rw [List.flatten_cons] at h
    rcases List.mem_append.mp h with h | h
    · exact (D _).cells r a h
    · exact t.cells a h
theorem Own3.lockd {α : Type} {D : α → Od} {H H1 : Hp} {S : List Addr} (h1 : ∀ a, a ∉ S → H1 a = H a) (h2 : ∀ a ∈ S, ∀ u, H a = some u → ∃ o, H1 a = some (.frz o u)) (hm : ∀ a ∈ S, ∃ o, H a = some o ∧ Mut (some o)) : ∀ {xs : List α} {vs : List V} {gs : List (List Addr)}, Own3 D H xs vs gs → (∀ a ∈ gs.flatten, a ∈ S) → Paired (fun x u => (D x).pd.pr H1 u) xs vs
  | _, _, _, .nil, _ => .nil
  | x :: _, v :: _, g :: gs, .cons r t, sub => by
    rw [List.flatten_cons] at sub
    refine .cons ?_ (Own3.lockd h1 h2 hm t fun a ha => sub a (List.mem_append_right _ ha))
    have m1 : ∀ a, a ∉ g → (fun a => if a ∈ g then H1 a else H a : Hp) a = H a := fun a ha => if_neg ha
    have m2 : ∀ a ∈ g, ∀ u, H a = some u → ∃ o, (fun a => if a ∈ g then H1 a else H a : Hp) a = some (.frz o u) := fun a ha u e => by
      obtain ⟨o, ho⟩ := h2 a (sub a (List.mem_append_left _ ha)) u e
      exact ⟨o, (if_pos ha).trans ho⟩
    refine (D x).pd.mono (fun a o p e => ?_) ((D x).lockd r m1 m2)
    by_cases ha : a ∈ g
    · exact (if_pos ha).symm.trans e
    · have e : H a = some o := (if_neg ha).symm.trans e
      by_cases hs : a ∈ S
      · obtain ⟨u, hu, mu⟩ := hm a hs
        rw [e] at hu
        cases hu
        exact absurd p (Mut.npst mu)
      · rw [h1 a hs]; exact e
def oLO {α : Type} (D : α → Od) (xs : List α) : Od where
  pr G H v := ∃ p vs gs, G = p :: gs.flatten ∧ v = .ref p ∧ H p = some (.lst vs) ∧ xs.length ≤ sizeLine ∧ Own3 D H xs vs gs
  pd := pL (fun x => (D x).pd) xs
  frame := fun {G H H' v} h k f => by
    obtain ⟨p, vs, gs, eg, ev, h, z, q⟩ := h
    exact ⟨p, vs, gs, eg, ev, k p (by rw [eg]; exact List.mem_cons_self) _ h, z, q.frame f fun a ha => k a (by rw [eg]; exact List.mem_cons_of_mem _ ha)⟩
  cells := fun ⟨p, vs, gs, eg, ev, h, z, q⟩ a ha => by
    rw [eg] at ha
    rcases List.mem_cons.mp ha with e | ha
    · rw [e]; exact ⟨_, h, trivial⟩
    · exact q.cells a ha
  lockd := fun {G H H1 v} ⟨p, vs, gs, eg, ev, h, z, q⟩ h1 h2 => by
    obtain ⟨o, ho⟩ := h2 p (by rw [eg]; exact List.mem_cons_self) _ h
    have hm : ∀ a ∈ G, ∃ o, H a = some o ∧ Mut (some o) := fun a ha => by
      rw [eg] at ha
      rcases List.mem_cons.mp ha with e | ha
      · rw [e]; exact ⟨_, h, trivial⟩
      · exact q.cells a ha
    exact ⟨p, o, vs, ev, ho, z, q.lockd h1 h2 hm fun a ha => by rw [eg]; exact List.mem_cons_of_mem _ ha⟩
theorem Own3.at {α : Type} {D : α → Od} {H : Hp} : ∀ {xs : List α} {vs : List V} {gs : List (List Addr)} {m : Nat} {x : α}, Own3 D H xs vs gs → xs[m]? = some x → ∃ v g, vs[m]? = some v ∧ gs[m]? = some g ∧ (D x).pr g H v
  | _, _, _, _, _, .nil, e => by simp at e
  | _, _, _, 0, _, .cons r _, e => by simp at e; subst e; exact ⟨_, _, rfl, rfl, r⟩
  | _, _, _, m + 1, x, .cons _ t, e => by
    obtain ⟨v, g, h1, h2, h3⟩ := Own3.at (m := m) (x := x) t (by simpa using e)
    exact ⟨v, g, by simpa using h1, by simpa using h2, h3⟩
/-- one part changes, at its own cells -/
theorem Own3.turn {α : Type} {D : α → Od} {H H' : Hp} {y : α} {v : V} {g : List Addr} (f : Fzs H H') (kp : ∀ a o, a ∉ g → H a = some o → H' a = some o) (new : (D y).pr g H' v) : ∀ {xs : List α} {vs : List V} {gs : List (List Addr)} {m : Nat}, Own3 D H xs vs gs → gs.flatten.Nodup → vs[m]? = some v → gs[m]? = some g → Own3 D H' (xs.set m y) vs gs
  | _, _, _, _, .nil, _, e, _ => by simp at e
  | _, _, _, 0, .cons r t, nd, e1, e2 => by
    simp at e1 e2
    subst e1 e2
    rw [List.flatten_cons] at nd
    exact .cons new (t.frame f fun a ha o e => kp a o (fun hg => (List.nodup_append.mp nd).2.2 a hg a ha rfl) e)
  | _, _, g0 :: gs, m + 1, .cons r t, nd, e1, e2 => by
    rw [List.flatten_cons] at nd
    have e2' : gs[m]? = some g := by simpa using e2
    refine .cons ((D _).frame r (fun a ha o e => kp a o (fun hg => ?_) e) f) (Own3.turn f kp new t (List.nodup_append.mp nd).2.1 (by simpa using e1) e2')
    exact (List.nodup_append.mp nd).2.2 a ha a (List.mem_flatten.mpr ⟨g, List.mem_of_getElem? e2', hg⟩) rfl
theorem Own3.glen {α : Type} {D : α → Od} {H : Hp} : ∀ {xs : List α} {vs : List V} {gs : List (List Addr)}, Own3 D H xs vs gs → xs.length = gs.length
  | _, _, _, .nil => rfl
  | _, _, _, .cons _ t => congrArg (· + 1) t.glen

/-! ### displays of things of one's own -/
def oSeq {α : Type} (D : α → Od) (xs : List α) (vs : List V) : Od where
  pr G H _ := ∃ gs, G = gs.flatten ∧ Own3 D H xs vs gs
  pd := pTrue
  frame := fun {G H H' v} h k f => by
    obtain ⟨gs, eg, q⟩ := h
    exact ⟨gs, eg, q.frame f fun a ha => k a (by rw [eg]; exact ha)⟩
  cells := fun {G H v} h a ha => by
    obtain ⟨gs, eg, q⟩ := h
    exact q.cells a (by rw [← eg]; exact ha)
  lockd := fun _ _ _ => trivial
def tArO {α β γ : Type} (F : Fm) (Γ : Gm) (Δ : Δs) (T : Option γ) (k : β → Option γ) (D : α → Od) (xs : β → List α) (Δ' : β → Δs) : TA := fun σ H Q =>
  Ok F Γ Δ σ H ∧ ∃ g, T = some g ∧ ∀ b vs H', k b = some g → St true H H' → Ok F Γ (⟨.non, oSeq D (xs b) vs, none⟩ :: Δ' b) σ H' → Q vs H'
theorem ao_nil {α : Type} {D : α → Od} {k : Unit → Option γ} : PA X [] (tArO F Γ Δ (k ()) k D (fun _ => []) fun _ => Δ) :=
  pa_nil.wk fun σ H Q ⟨ok, g, e, q⟩ => q () [] H e (St.refl H) (by
    obtain ⟨⟨Δ0, e, k⟩, n⟩ := ok
    exact ⟨⟨⟨[], .non, oSeq D [] [], none⟩ :: Δ0, by rw [List.map_cons, e]; rfl, k.cons List.nodup_nil (fun _ h => nomatch h) ⟨[], rfl, .nil⟩ (fun _ h => nomatch h)⟩, n⟩)
theorem Hk.glue {α : Type} {D : α → Od} {x : α} {xs : List α} {v : V} {vs : List V} {H : Hp} (k : Hk F (⟨.non, oSeq D xs vs, none⟩ :: ⟨v, D x, none⟩ :: Δ) H) : Hk F (⟨.non, oSeq D (x :: xs) (v :: vs), none⟩ :: Δ) H := by
  obtain ⟨Δ0, e, k⟩ := k
  match Δ0, e, k with
  | [], e, _ => cases e
  | [_], e, _ =>
    have := congrArg List.length e
    simp at this
  | c1 :: c2 :: R, e, k =>
    obtain ⟨G1, v1, d1, p1⟩ := c1
    obtain ⟨G2, v2, d2, p2⟩ := c2
    have e' : (⟨v1, d1, p1⟩ : Cell) = ⟨.non, oSeq D xs vs, none⟩ ∧ (⟨v2, d2, p2⟩ : Cell) = ⟨v, D x, none⟩ ∧ R.map Cel.fg = Δ := by simpa [Cel.fg] using e
    obtain ⟨e1, e2, e3⟩ := e'
    cases e1
    cases e2
    obtain ⟨gs, eg, q⟩ := k.del _ List.mem_cons_self
    have eg : G1 = gs.flatten := eg
    have m2 := k.del _ (List.mem_cons_of_mem _ List.mem_cons_self)
    have nd1 := k.ndup
    have k2 := k.less (.cons _ (List.Sublist.refl _))
    have nd2 := k2.ndup
    have k3 := k2.less (.cons _ (List.Sublist.refl _))
    have own : ∀ a, a ∈ G2 ∨ a ∈ G1 → F.H0 a = none := fun a ha => by
      rcases ha with ha | ha
      · rcases k.own _ (List.mem_cons_of_mem _ List.mem_cons_self) a ha with z | ⟨_, _, z, _⟩
        · exact z
        · cases z
      · rcases k.own _ List.mem_cons_self a ha with z | ⟨_, _, z, _⟩
        · exact z
        · cases z
    refine ⟨⟨G2 ++ G1, .non, oSeq D (x :: xs) (v :: vs), none⟩ :: R, by rw [List.map_cons, e3]; rfl, k3.cons ?_ (fun a ha hb => ?_) ⟨G2 :: gs, by rw [List.flatten_cons, ← eg], .cons m2 q⟩ fun a ha => .inl (own a (List.mem_append.mp ha))⟩
    · refine List.nodup_append.mpr ⟨nd2.1, nd1.1, fun a ha b hb e => ?_⟩
      subst e
      exact nd1.2.2 a hb (by rw [cellsOf_cons]; exact List.mem_append_left _ ha)
    · rcases List.mem_append.mp ha with h | h
      · exact nd2.2.2 a h hb
      · exact nd1.2.2 a h (by rw [cellsOf_cons]; exact List.mem_append_right _ hb)
theorem ao_cons {a : Expr} {es : List Expr} {α β1 β2 : Type} {T : Option γ} {k1 : β1 → Option γ} {k : β1 × β2 → Option γ} {D : α → Od} {x : β1 → α} {xs : β1 → β2 → List α} {Δ1 : β1 → Δs} {Δ2 : β1 → β2 → Δs}
    (ha : PE X a (tO true F Γ Δ T k1 (fun b => D (x b)) Δ1)) (hr : ∀ b1 v, PA X es (tArO F Γ (⟨v, D (x b1), none⟩ :: Δ1 b1) (k1 b1) (fun b2 => k (b1, b2)) D (xs b1) fun b2 => ⟨v, D (x b1), none⟩ :: Δ2 b1 b2)) (hs : starEach (a :: es) X.env = (false, eval a X.env) :: starEach es X.env := by rfl) :
    PA X (a :: es) (tArO F Γ Δ T k D (fun b => x b.1 :: xs b.1 b.2) fun b => Δ2 b.1 b.2) :=
  (pa_cons ha (pa_ex fun b1 => pa_ex fun v => hr b1 v) hs).wk fun σ H Q ⟨ok, g, e, q⟩ => ⟨ok, g, e, fun b1 v H1 kb f1 ok1 => ⟨b1, v, ok1.ok, g, kb, fun b2 vs H2 kb2 f2 ok2 => q (b1, b2) (v :: vs) H2 kb2 (f1.trans f2) ⟨ok2.hk.glue, ok2.nm⟩⟩⟩
theorem x_dispO {es : List Expr} {pos : Pos} {β α : Type} {T : Option γ} {k : β → Option γ} {D : α → Od} {xs : β → List α} {Δ1 : β → Δs} (ha : PA X es (tArO F Γ Δ T k D xs Δ1)) (hz : ∀ b, (xs b).length ≤ 1000) :
    PE X (.List es pos) (tO true F Γ Δ T k (fun b => oLO D (xs b)) Δ1) :=
  (pe_lst ha).wk fun σ H Q ⟨ok, g, e, q⟩ => ⟨ok, g, e, fun b vs H' kb f ok' => by
    have z : (xs b).length ≤ sizeLine := Nat.le_trans (hz b) (by decide)
    obtain ⟨⟨Δ0, e0, k0⟩, n⟩ := ok'
    match Δ0, e0, k0 with
    | c1 :: R, e0, k0 =>
      obtain ⟨G1, v1, d1, p1⟩ := c1
      have e' : (⟨v1, d1, p1⟩ : Cell) = ⟨.non, oSeq D (xs b) vs, none⟩ ∧ R.map Cel.fg = Δ1 b := by simpa [Cel.fg] using e0
      obtain ⟨e1, e2⟩ := e'
      cases e1
      obtain ⟨gs, eg, o3⟩ := k0.del _ List.mem_cons_self
      have eg : G1 = gs.flatten := eg
      refine ⟨by rw [← o3.len]; exact z, fun p np => ?_⟩
      have gr : Gr H' (upd H' p (.lst vs)) := Gr.new np
      have k1 := k0.gr gr
      have nd := k1.ndup
      have k2 := k1.less (.cons _ (List.Sublist.refl _))
      have pn : ∀ {a}, a ∈ cellsOf (⟨G1, .non, oSeq D (xs b) vs, none⟩ :: R) → a ≠ p := fun {a} h e => by
        obtain ⟨o, e3, _⟩ := k0.isC h
        rw [e, np] at e3; cases e3
      refine q b (.ref p) _ kb (f.trans gr.st) ⟨R, p :: G1, e2, k2.cons (c := ⟨p :: G1, .ref p, oLO D (xs b), none⟩) ?_ (fun a ha hb => ?_) ⟨p, vs, gs, by rw [eg], rfl, upd_same, z, o3.frame gr.fzs fun a _ o e => gr a o e⟩ (fun a ha => .inl ?_), (fun h => nomatch h), n.mono gr.fzs⟩
      · exact List.nodup_cons.mpr ⟨fun h => pn (by rw [cellsOf_cons]; exact List.mem_append_left _ h) rfl, nd.1⟩
      · rcases List.mem_cons.mp ha with e | ha
        · exact pn (a := a) (by rw [cellsOf_cons]; exact List.mem_append_right _ hb) e
        · exact nd.2.2 a ha hb
      · rcases List.mem_cons.mp ha with e | ha
        · rw [e]; exact k0.fresh0 np
        · rcases k0.own _ List.mem_cons_self a ha with z | ⟨_, _, z, _⟩
          · exact z
          · cases z⟩
/-! ### a part is appended to -/
theorem x_appI {o i e : Expr} {ipos apos cpos : Pos} {β1 β2 β3 α : Type} {T : Option γ} {k1 : β1 → Option γ} {k2 : β1 → β2 → Nat → Option γ} {k : ((β1 × β2) × Nat) × β3 → Option γ} {Ee : α → Pd} {n : β1 → β2 → Int} {xs : List (List α)} {y : β1 → β2 → Nat → β3 → α} {v : V} {prm : Option Nat} (j : Nat)
    (ho : PE X o (tE true F Γ Δ T k1 (fun _ => pV v) fun _ => Δ)) (hi : ∀ b1, PE X i (tE true F Γ Δ (k1 b1) (fun b2 => (ixN xs.length (n b1 b2)).bind fun m => k2 b1 b2 m) (fun b2 => pInt (n b1 b2)) fun _ => Δ))
    (he : ∀ b1 b2 m, PE X e (tE false F Γ Δ (k2 b1 b2 m) (fun b3 => grd ((xs.getD m []).length < sizeLine) (k (((b1, b2), m), b3))) (fun b3 => Ee (y b1 b2 m b3)) fun _ => Δ))
    (hj : Δ[j]? = some ⟨v, oLO (oL Ee) xs, prm⟩) (hpi : PlainIx i := by exact fun _ _ => rfl)
    (hbase : attributeBase (.Subscript o i ipos) "append" X.env (eval (.Subscript o i ipos) X.env) = eval (.Subscript o i ipos) X.env := by rfl) (hline : (apos.endLine == cpos.line) = true := by rfl) (hs : starEach [e] X.env = (false, eval e X.env) :: starEach [] X.env := by rfl)
    (hfew : ((backTo cpos (starEach [e] X.env)).all (fun x => !x.1) && (backToKw cpos (keywordEach [] X.env)).all (fun x => x.1.isSome) && decide ([e].length + ([] : List Keyword).length + (if ([] : List Keyword).isEmpty then 0 else 1) < 30)) = true := by rfl) :
    PE X (.Call (.Attribute (.Subscript o i ipos) "append" apos) [e] [] cpos) (tE true F Γ Δ T k (fun _ => pNon) fun b => Δ.set j ⟨v, oLO (oL Ee) (xs.set b.1.2 (xs.getD b.1.2 [] ++ [y b.1.1.1 b.1.1.2 b.1.2 b.2])), prm⟩) :=
  (pe_bm PySem.F.plainAttrs_list PySem.F.slot_list_append PySem.F.type_list_append mt_append (pe_ix ix_list ho (pe_ex hi) hpi) (pa_cons (pe_ex fun b1 => pe_ex fun b2 => pe_ex fun m => he b1 b2 m) pa_nil hs) hbase hfew hline hs).wk fun σ H Q ⟨ok, g, e, q⟩ => ⟨ok, g, e, fun b1 u H1 kb1 f1 ok1 hu => ⟨b1, ok1, g, kb1, fun b2 w H2 kb2 f2 ok2 hw => by
    obtain ⟨m, em, km⟩ := bind_some kb2
    have hu : u = v := hu
    have hw : w = .int (n b1 b2) := hw
    subst hu hw
    obtain ⟨_, p, vs, gs, _, ev, hp, z, o3⟩ := ok2.at hj
    have hm : m < xs.length := (ixN_seq em).2.1
    obtain ⟨c, gc, hvc, hgc, pc⟩ := o3.at (List.getElem?_eq_getElem hm)
    obtain ⟨q1, ws1, _, ec1, hq1, _, _⟩ := pc
    have ec1 : c = .ref q1 := ec1
    have ev : u = .ref p := ev
    have hat : atI vs (n b1 b2) = some c := by
      unfold atI
      rw [← o3.len, em]
      exact hvc
    refine ⟨p, vs, n b1 b2, c, ev, rfl, .inl (.inl hp), hat, by rw [ec1]; exact .inl ⟨rfl, ws1, .inl (.inl hq1)⟩, b1, b2, m, ok2, g, km, fun b3 w H3 kb3 f3 ok3 hw => ?_⟩
    obtain ⟨cg, kb⟩ := grd_some kb3
    have gr3 : Gr H2 H3 := f3.gr
    obtain ⟨G, ⟨p', vs', gs', eG, ev', hp', z', o3'⟩, ndG, turn⟩ := ok3.cell hj
    have ev' : u = .ref p' := ev'
    rw [ev] at ev'
    cases ev'
    have evs : vs' = vs := by
      have := gr3 _ _ hp
      rw [hp'] at this
      cases this
      rfl
    subst evs
    have eG : G = p :: gs'.flatten := eG
    subst eG
    obtain ⟨c', gc', hvc', hgc', pc'⟩ := o3'.at (List.getElem?_eq_getElem hm)
    rw [hvc] at hvc'
    cases hvc'
    obtain ⟨q2, ws, eg2, ec, hq, zq, pq⟩ := pc'
    have ec : c = .ref q2 := ec
    have gd : xs.getD m [] = xs[m] := by rw [List.getD_eq_getElem?_getD, List.getElem?_eq_getElem hm]; rfl
    rw [gd] at cg
    have hqG : q2 ∈ gs'.flatten := List.mem_flatten.mpr ⟨gc', List.mem_of_getElem? hgc', by rw [eg2]; exact List.mem_singleton.mpr rfl⟩
    have npq : p ≠ q2 := fun z => (List.nodup_cons.mp ndG).1 (by rw [z]; exact hqG)
    have fzm : Fzs H3 (upd H3 q2 (.lst (ws ++ [w]))) := Fzs.mut hq fun z => z
    have kp : ∀ a o, a ∉ gc' → H3 a = some o → upd H3 q2 (.lst (ws ++ [w])) a = some o := fun a o na e => by
      rw [upd_ne fun z => na (by rw [eg2, z]; exact List.mem_singleton.mpr rfl)]; exact e
    obtain ⟨ok4, f4⟩ := turn (upd H3 q2 (.lst (ws ++ [w]))) (oLO (oL Ee) (xs.set m (xs.getD m [] ++ [y b1 b2 m b3]))) (fun a o na e => kp a o (fun hg => na (List.mem_cons_of_mem _ (List.mem_flatten.mpr ⟨gc', List.mem_of_getElem? hgc', hg⟩))) e)
      ⟨p, vs', gs', rfl, ev, by rw [upd_ne npq]; exact hp', by rw [List.length_set]; exact z, Own3.turn fzm kp (by
        rw [gd]
        exact ⟨q2, ws ++ [w], eg2, ec, upd_same, by rw [List.length_append, List.length_singleton]; omega, paired_app (paired_mono (fun x _ h => (Ee x).mono fzm h) pq) (.cons ((Ee _).mono fzm hw) .nil)⟩) o3' (List.nodup_cons.mp ndG).2 hvc hgc'⟩
    exact ⟨q2, ws, w, ec, rfl, hq, by rw [← paired_len pq]; exact cg, q (((b1, b2), m), b3) .non _ kb ((f1.trans f2).trans (gr3.st.trans f4)) ok4 rfl⟩⟩⟩
/-! ### a thing of one's own is appended -/
theorem Own3.app {α : Type} {D : α → Od} {H : Hp} {y : α} {v : V} {g : List Addr} (r : (D y).pr g H v) : ∀ {xs : List α} {vs : List V} {gs : List (List Addr)}, Own3 D H xs vs gs → Own3 D H (xs ++ [y]) (vs ++ [v]) (gs ++ [g])
  | _, _, _, .nil => .cons r .nil
  | _, _, _, .cons a t => .cons a (t.app r)
theorem x_appO {o e : Expr} {apos cpos : Pos} {β1 β2 α : Type} {T : Option γ} {k1 : β1 → Option γ} {k : β1 × β2 → Option γ} {Δ1 : β1 → Δs} {Δ2 : β1 → β2 → Δs} {D : α → Od} {xs0 : β1 → List α} {xs : β1 → β2 → List α} {y : β1 → β2 → α} {v : V} {prm0 prm : Option Nat} (j : Nat)
    (ho : PE X o (tE true F Γ Δ T k1 (fun _ => pV v) Δ1)) (he : ∀ b1, PE X e (tO true F Γ (Δ1 b1) (k1 b1) (fun b2 => grd ((xs b1 b2).length < sizeLine) (k (b1, b2))) (fun b2 => D (y b1 b2)) (Δ2 b1))) (hj0 : ∀ b1, (Δ1 b1)[j]? = some ⟨v, oLO D (xs0 b1), prm0⟩)
    (hj : ∀ b1 b2, (Δ2 b1 b2)[j]? = some ⟨v, oLO D (xs b1 b2), prm⟩)
    (hbase : attributeBase o "append" X.env (eval o X.env) = eval o X.env := by rfl) (hline : (apos.endLine == cpos.line) = true := by rfl) (hs : starEach [e] X.env = (false, eval e X.env) :: starEach [] X.env := by rfl)
    (hfew : ((backTo cpos (starEach [e] X.env)).all (fun x => !x.1) && (backToKw cpos (keywordEach [] X.env)).all (fun x => x.1.isSome) && decide ([e].length + ([] : List Keyword).length + (if ([] : List Keyword).isEmpty then 0 else 1) < 30)) = true := by rfl) :
    PE X (.Call (.Attribute o "append" apos) [e] [] cpos) (tE true F Γ Δ T k (fun _ => pNon) fun b => (Δ2 b.1 b.2).set j ⟨v, oLO D (xs b.1 b.2 ++ [y b.1 b.2]), prm⟩) :=
  (pe_bm PySem.F.plainAttrs_list PySem.F.slot_list_append PySem.F.type_list_append mt_append ho (pa_cons (pe_ex he) pa_nil hs) hbase hfew hline hs).wk fun σ H Q ⟨ok, g, e, q⟩ => ⟨ok, g, e, fun b1 u H1 kb1 f1 ok1 hu => by
    have hu : u = v := hu
    subst hu
    obtain ⟨_, p0, vs0, _, _, ev0, hp0, _, _⟩ := ok1.at (hj0 b1)
    have ev0 : u = .ref p0 := ev0
    refine ⟨by rw [ev0]; exact .inl ⟨rfl, vs0, .inl (.inl hp0)⟩, b1, ok1, g, kb1, fun b2 w H2 kb2 f2 okn => ?_⟩
    obtain ⟨c, kb⟩ := grd_some kb2
    obtain ⟨G, Gn, ⟨p, vs, gs, eG, ev, hp, z, o3⟩, pn, nd, turn⟩ := okn.absorb (hj b1 b2)
    have eG : G = p :: gs.flatten := eG
    subst eG
    have pG : p ∉ gs.flatten := (List.nodup_cons.mp (List.nodup_append.mp nd).1).1
    have pN : p ∉ Gn := fun h => (List.nodup_append.mp nd).2.2 p List.mem_cons_self p h rfl
    have fzm : Fzs H2 (upd H2 p (.lst (vs ++ [w]))) := Fzs.mut hp fun z => z
    have kp : ∀ a o, a ≠ p → H2 a = some o → upd H2 p (.lst (vs ++ [w])) a = some o := fun a o na e => by rw [upd_ne na]; exact e
    have ndf : (p :: (gs ++ [Gn]).flatten).Nodup := by
      rw [List.flatten_append, List.flatten_cons, List.flatten_nil, List.append_nil]
      exact nd
    obtain ⟨ok3, fz3, dom3⟩ := turn (upd H2 p (.lst (vs ++ [w]))) (oLO D (xs b1 b2 ++ [y b1 b2])) (p :: (gs ++ [Gn]).flatten) (fun a o na _ e => kp a o (fun z => na (by rw [z]; exact List.mem_cons_self)) e) (fun a ha => by
        have : ∃ o, H2 a = some o := by
          rcases ha with h | h
          · rcases List.mem_cons.mp h with e | h
            · rw [e]; exact ⟨_, hp⟩
            · obtain ⟨o, e, _⟩ := o3.cells a h; exact ⟨o, e⟩
          · obtain ⟨o, e, _⟩ := (D _).cells pn a h; exact ⟨o, e⟩
        obtain ⟨o, e⟩ := this
        exact upd_dom _ _ a o e) ndf (fun a ha => .inl (by
        rw [List.flatten_append, List.flatten_cons, List.flatten_nil, List.append_nil] at ha
        rcases List.mem_cons.mp ha with e | ha
        · exact .inl (by rw [e]; exact List.mem_cons_self)
        · rcases List.mem_append.mp ha with h | h
          · exact .inl (List.mem_cons_of_mem _ h)
          · exact .inr h)) ⟨p, vs ++ [w], gs ++ [Gn], rfl, ev, upd_same, by rw [List.length_append, List.length_singleton]; omega, (o3.frame fzm fun a ha o e => kp a o (fun z => pG (by rw [← z]; exact ha)) e).app ((D _).frame pn (fun a ha o e => kp a o (fun z => pN (by rw [← z]; exact ha)) e) fzm)⟩
    exact ⟨p, vs, w, ev, rfl, hp, by rw [← o3.len]; exact c, q (b1, b2) .non _ kb ((f1.trans f2).trans ⟨fz3, (fun h => nomatch h), dom3⟩) ok3 rfl⟩⟩
end
end L3
end
section
set_option Elab.async false
set_option linter.all false
set_option maxRecDepth 100000
set_option maxHeartbeats 4000000
namespace L3
open PySem PySem.Spec PyProof.Rows L2
section
variable {X : Cx} {W : Bool} {F : Fm} {Γ : Gm} {Δ : Δs} {γ : Type} {N : Fn γ} {rest : List Stmt}
/-- name = e by the statement's own rule (a comprehension) -/
theorem s_letOA {i : Nat} {st : Stmt} {β α : Type} {T : Option γ} {Δ' : β → Δs} {val : β → α} {k2 : β → α → Option γ} (D0 : α → Od) (hst : PS X st (tAsg (tO true F Γ Δ T (fun b => (some (val b)).bind (k2 b)) (fun b => D0 (val b)) Δ') (gName i)))
    (hr : ∀ b a v, PSs X rest (tS F (Γ.set i (some (pV v))) (⟨v, D0 a, none⟩ :: Δ' b) N (k2 b a))) : PSs X (st :: rest) (tS F Γ Δ N T) :=
  (pss_cons hst (pss_ex fun b => pss_ex fun v => hr b (val b) v)).wk fun D σ H ⟨ok, g, e, f⟩ => ⟨ok, g, e, fun b v H' kb fz ok' => ⟨b, v, ok'.ok.set rfl, g, kb, N.mono f fz.fz⟩⟩
theorem erase_perm {α : Type} {c : α} : ∀ {l : List α} {j : Nat}, l[j]? = some c → (c :: l.eraseIdx j).Perm l
  | [], _, h => by simp at h
  | x :: l, 0, h => by
    have e : x = c := by simpa using h
    rw [e]; exact List.Perm.refl _
  | x :: l, j + 1, h => by
    have q : l[j]? = some c := by simpa using h
    exact (List.Perm.swap x c _).trans ((erase_perm q).cons x)
/-- return x, x a cell of one's own -/
theorem s_retV {e : Expr} {pos : Pos} {β ρ : Type} {T : Option γ} {Δ' : β → Δs} {P : ρ → Δs} {Ro : ρ → Od} {ι : ρ → γ} {rv : β → ρ} {v : V} (j : Nat) (hN : ∀ H r D, N.fin H (ι r) D → RO F P Ro r D.rt) (he : PE X e (tE true F Γ Δ T (fun b => some (ι (rv b))) (fun _ => pV v) Δ'))
    (hj : ∀ b, (Δ' b)[j]? = some ⟨v, Ro (rv b), none⟩) (hP : ∀ b, (P (rv b)).Sublist ((Δ' b).eraseIdx j)) : PSs X [.Return (some e) pos] (tS F Γ Δ N T) :=
  (pss_one (ps_ret he)).wk fun D σ H ⟨ok, g, e, f⟩ => ⟨ok, g, e, fun b w H' kb fz ok' hw => by
    have eg : g = ι (rv b) := (Option.some.inj kb).symm
    rw [eg] at f
    have hw : w = v := hw
    subst hw
    exact hN _ _ D f w H' ((ok'.hk.perm (erase_perm (hj b)).symm).less ((hP b).cons₂ _))⟩
end
end L3
end
section
set_option Elab.async false
set_option linter.all false
set_option maxRecDepth 100000
set_option maxHeartbeats 4000000
namespace L3
open PySem PySem.Spec PyProof.Rows L2
section
variable {X : Cx} {W : Bool} {F : Fm} {Γ : Gm} {Δ : Δs} {γ : Type}
section
variable {a : Expr} {pos : Pos} {β : Type} {T : Option γ} {k : β → Option γ} {Δ1 : β → Δs} {i : β → Int}
theorem x_neg (ha : PE X a (tE W F Γ Δ T k (fun b => pInt (i b)) Δ1)) : PE X (.UnaryOp .USub a pos) (tE W F Γ Δ T k (fun b => pInt (-(i b))) Δ1) :=
  x1t (u_un un_neg) ha fun b σ v H Q _ hv q => ⟨i b, hv, q _ rfl⟩
end
section
variable {a b : Expr} {pos : Pos} {β1 β2 : Type} {T : Option γ} {k1 : β1 → Option γ} {k : β1 × β2 → Option γ} {Δ1 : β1 → Δs} {Δ2 : β1 → β2 → Δs} {i : β1 → Str} {j : β1 → β2 → Str}
theorem x_addS (ha : PE X a (tE W F Γ Δ T k1 (fun b => pStr (i b)) Δ1)) (hb : ∀ b1, PE X b (tE W F Γ (Δ1 b1) (k1 b1) (fun b2 => grd ((i b1).length + (j b1 b2).length ≤ sizeLine) (k (b1, b2))) (fun b => pStr (j b1 b)) (Δ2 b1))) :
    PE X (.BinOp a .Add b pos) (tE W F Γ Δ T k (fun b => pStr (i b.1 ++ j b.1 b.2)) fun b => Δ2 b.1 b.2) :=
  x2g (b_op op_add_str) ha hb fun b1 b2 _ v w H Q _ c hv hw q => ⟨i b1, j b1 b2, hv, hw, c, q _ rfl⟩
end
/-- None | a value as a maybe -/
theorem co_none {α β : Type} {E : α → Pd} {e : Expr} {T : Option γ} {k : β → Option γ} {Δ' : β → Δs} (he : PE X e (tE W F Γ Δ T k (fun _ => pNon) Δ')) : PE X e (tE W F Γ Δ T k (fun _ => pOp E (none : Option α)) Δ') := he
theorem co_some {α β : Type} {E : α → Pd} {x : β → α} {e : Expr} {T : Option γ} {k : β → Option γ} {Δ' : β → Δs} (he : PE X e (tE W F Γ Δ T k (fun b => E (x b)) Δ')) : PE X e (tE W F Γ Δ T k (fun b => pOp E (some (x b))) Δ') := he
def oSel {α β : Type} (o : Option α) (a b : β) : β := match o with
  | none => a
  | some _ => b
theorem tyOp {α : Type} {E : α → Pd} {t : String} {o : Option α} (h : ∀ x, TyP Δ (E x) t) : TyP Δ (pOp E o) (oSel o "NoneType" t) := by
  cases o with
  | none => exact tyNon
  | some x => exact h x
theorem kitOp {α : Type} {a b c : String} {r q : Bool} {o : Option α} (h1 : kitB a c = some r) (h2 : kitB b c = some q) : kitB (oSel o a b) c = some (oSel o r q) := by cases o <;> assumption
def opV : Option Int → V
  | none => .non
  | some i => .int i
def opS : Option Str → V
  | none => .non
  | some i => .str i
def flOpI : Flat (pOp pInt) := ⟨opV, fun {x H v} h => by cases x <;> exact h, fun {x H} => by cases x <;> rfl, fun x => by cases x <;> rfl, fun x y => by
  cases x with
  | none => cases y <;> rfl
  | some a => cases y with
    | none => rfl
    | some b => show (a == b) = _; by_cases h : a = b <;> simp [h]⟩
def flOpS : Flat (pOp pStr) := ⟨opS, fun {x H v} h => by cases x <;> exact h, fun {x H} => by cases x <;> rfl, fun x => by cases x <;> rfl, fun x y => by
  cases x with
  | none => cases y <;> rfl
  | some a => cases y with
    | none => rfl
    | some b => show (a == b) = _; by_cases h : a = b <;> simp [h]⟩
section
variable {a b : Expr} {pos : Pos} {β1 β2 : Type} {T : Option γ} {k1 : β1 → Option γ} {k : β1 × β2 → Option γ} {Δ1 : β1 → Δs} {Δ2 : β1 → β2 → Δs} {i : β1 → Option Int} {j : β1 → β2 → Option Int} {c : β1 → Option Str} {d : β1 → β2 → Option Str}
theorem scOI (x y : Option Int) : scal (flOpI.mp x) (flOpI.mp y) = true := by cases x <;> cases y <;> rfl
theorem scOS (x y : Option Str) : scal (flOpS.mp x) (flOpS.mp y) = true := by cases x <;> cases y <;> rfl
theorem inOI (x y : Option Int) (h : flOpI.mp x = flOpI.mp y) : x = y := by cases x <;> cases y <;> first | rfl | (cases h; done) | (cases h; rfl)
theorem inOS (x y : Option Str) (h : flOpS.mp x = flOpS.mp y) : x = y := by cases x <;> cases y <;> first | rfl | (cases h; done) | (cases h; rfl)
theorem x_eqOI (ha : PE X a (tE W F Γ Δ T k1 (fun b => pOp pInt (i b)) Δ1)) (hb : ∀ b1, PE X b (tE W F Γ (Δ1 b1) (k1 b1) (fun b2 => k (b1, b2)) (fun b => pOp pInt (j b1 b)) (Δ2 b1))) : PE X (.Compare a [.Eq] [b] pos) (tE W F Γ Δ T k (fun b => pBl (decide (i b.1 = j b.1 b.2))) fun b => Δ2 b.1 b.2) := x2t (b_cmp op_eq (nomark _)) ha hb (v_eqF flOpI scOI inOI)
theorem x_neOI (ha : PE X a (tE W F Γ Δ T k1 (fun b => pOp pInt (i b)) Δ1)) (hb : ∀ b1, PE X b (tE W F Γ (Δ1 b1) (k1 b1) (fun b2 => k (b1, b2)) (fun b => pOp pInt (j b1 b)) (Δ2 b1))) : PE X (.Compare a [.NotEq] [b] pos) (tE W F Γ Δ T k (fun b => pBl (!decide (i b.1 = j b.1 b.2))) fun b => Δ2 b.1 b.2) := x2t (b_cmp op_ne (nomark _)) ha hb (v_neF flOpI scOI inOI)
theorem t_eqOI (ha : PE X a (tE W F Γ Δ T k1 (fun b => pOp pInt (i b)) Δ1)) (hb : ∀ b1, PE X b (tE W F Γ (Δ1 b1) (k1 b1) (fun b2 => k (b1, b2)) (fun b => pOp pInt (j b1 b)) (Δ2 b1))) : PT X (.Compare a [.Eq] [b] pos) (tTs W F Γ Δ T k (fun b => decide (i b.1 = j b.1 b.2)) fun b => Δ2 b.1 b.2) := t2t (bt_cmp op_eq (nomark _)) ha hb (v_eqF flOpI scOI inOI)
theorem t_neOI (ha : PE X a (tE W F Γ Δ T k1 (fun b => pOp pInt (i b)) Δ1)) (hb : ∀ b1, PE X b (tE W F Γ (Δ1 b1) (k1 b1) (fun b2 => k (b1, b2)) (fun b => pOp pInt (j b1 b)) (Δ2 b1))) : PT X (.Compare a [.NotEq] [b] pos) (tTs W F Γ Δ T k (fun b => !decide (i b.1 = j b.1 b.2)) fun b => Δ2 b.1 b.2) := t2t (bt_cmp op_ne (nomark _)) ha hb (v_neF flOpI scOI inOI)
theorem x_eqOS (ha : PE X a (tE W F Γ Δ T k1 (fun b => pOp pStr (c b)) Δ1)) (hb : ∀ b1, PE X b (tE W F Γ (Δ1 b1) (k1 b1) (fun b2 => k (b1, b2)) (fun b => pOp pStr (d b1 b)) (Δ2 b1))) : PE X (.Compare a [.Eq] [b] pos) (tE W F Γ Δ T k (fun b => pBl (decide (c b.1 = d b.1 b.2))) fun b => Δ2 b.1 b.2) := x2t (b_cmp op_eq (nomark _)) ha hb (v_eqF flOpS scOS inOS)
theorem x_neOS (ha : PE X a (tE W F Γ Δ T k1 (fun b => pOp pStr (c b)) Δ1)) (hb : ∀ b1, PE X b (tE W F Γ (Δ1 b1) (k1 b1) (fun b2 => k (b1, b2)) (fun b => pOp pStr (d b1 b)) (Δ2 b1))) : PE X (.Compare a [.NotEq] [b] pos) (tE W F Γ Δ T k (fun b => pBl (!decide (c b.1 = d b.1 b.2))) fun b => Δ2 b.1 b.2) := x2t (b_cmp op_ne (nomark _)) ha hb (v_neF flOpS scOS inOS)
theorem t_eqOS (ha : PE X a (tE W F Γ Δ T k1 (fun b => pOp pStr (c b)) Δ1)) (hb : ∀ b1, PE X b (tE W F Γ (Δ1 b1) (k1 b1) (fun b2 => k (b1, b2)) (fun b => pOp pStr (d b1 b)) (Δ2 b1))) : PT X (.Compare a [.Eq] [b] pos) (tTs W F Γ Δ T k (fun b => decide (c b.1 = d b.1 b.2)) fun b => Δ2 b.1 b.2) := t2t (bt_cmp op_eq (nomark _)) ha hb (v_eqF flOpS scOS inOS)
theorem t_neOS (ha : PE X a (tE W F Γ Δ T k1 (fun b => pOp pStr (c b)) Δ1)) (hb : ∀ b1, PE X b (tE W F Γ (Δ1 b1) (k1 b1) (fun b2 => k (b1, b2)) (fun b => pOp pStr (d b1 b)) (Δ2 b1))) : PT X (.Compare a [.NotEq] [b] pos) (tTs W F Γ Δ T k (fun b => !decide (c b.1 = d b.1 b.2)) fun b => Δ2 b.1 b.2) := t2t (bt_cmp op_ne (nomark _)) ha hb (v_neF flOpS scOS inOS)
end
/-! leaves where the mirror is known -/
section
variable {T : Option γ}
theorem y_var (i : Nat) {x : Str} {pos : Pos} {p : Pd} (h : Γ[i]? = some (some p) := by rfl) (hN : X.N[i]? = some x := by rfl) (hv : Vis X.env.scope x := by first | exact Or.inl rfl | exact Or.inr (Or.inl rfl) | exact Or.inr (Or.inr rfl))
    (hd : (x == ("__debug__" : Str)) = false := by decide) (hcd : (x == ("__classdict__" : Str)) = false := by decide) : PE X (.Name x pos) (tE W F Γ Δ T (fun _ : Unit => T) (fun _ => p) fun _ => Δ) := x_var (k := fun _ => T) i h hN hv hd hcd
theorem y_int {i : Int} {j pos} : PE X (.Constant (.int i) j pos) (tE W F Γ Δ T (fun _ : Unit => T) (fun _ => pInt i) fun _ => Δ) := x_int (k := fun _ => T)
theorem y_bl {i : Bool} {j pos} : PE X (.Constant (.bool i) j pos) (tE W F Γ Δ T (fun _ : Unit => T) (fun _ => pBl i) fun _ => Δ) := x_bl (k := fun _ => T)
theorem y_str {i : Str} {j pos} : PE X (.Constant (.str i) j pos) (tE W F Γ Δ T (fun _ : Unit => T) (fun _ => pStr i) fun _ => Δ) := x_str (k := fun _ => T)
theorem y_non {j pos} : PE X (.Constant .none j pos) (tE W F Γ Δ T (fun _ : Unit => T) (fun _ => pNon) fun _ => Δ) := x_non (k := fun _ => T)
theorem b_nil : PA X [] (tAr W F Γ Δ T (fun _ : Unit => T) (fun _ => []) fun _ => Δ) := a_nil (k := fun _ => T)
theorem q_none : PO X none (tPo W F Γ Δ T (fun _ : Unit => T) (fun _ => none) fun _ => Δ) := p_none (k := fun _ => T)
theorem y_nil {pos : Pos} {α : Type} (Ee : α → Pd) : PE X (.List [] pos) (tO W F Γ Δ T (fun _ : Unit => T) (fun _ => oL Ee []) fun _ => Δ) := x_nil (k := fun _ => T) Ee
end
end
end L3
end
section
set_option Elab.async false
set_option linter.all false
set_option maxRecDepth 100000
set_option maxHeartbeats 4000000
namespace L3
open PySem PySem.Spec PyProof.Rows L2
section
variable {X : Cx} {W : Bool} {F : Fm} {Γ : Gm} {Δ : Δs} {γ : Type}
/-- the mirror, the kind and the cells flow up from below, and are compared at the end -/
theorem x_out {β : Type} {e : Expr} {T T' : Option γ} {k : β → Option γ} {E E' : β → Pd} {Δ' Δ'' : β → Δs} (h : PE X e (tE W F Γ Δ T' k E' Δ''))
    (hT : T = T' := by rfl) (hE : ∀ b, E b = E' b := by intro _; rfl) (hΔ : ∀ b, Δ' b = Δ'' b := by intro _; rfl) : PE X e (tE W F Γ Δ T k E Δ') := by
  have e1 : E = E' := funext hE
  have e2 : Δ' = Δ'' := funext hΔ
  subst hT e1 e2
  exact h
theorem t_out {β : Type} {e : List Expr} {T T' : Option γ} {k : β → Option γ} {c c' : β → Bool} {Δ' Δ'' : β → Δs} (h : PTs X e (tTs W F Γ Δ T' k c' Δ''))
    (hT : T = T' := by rfl) (hE : ∀ b, c b = c' b := by intro _; rfl) (hΔ : ∀ b, Δ' b = Δ'' b := by intro _; rfl) : PTs X e (tTs W F Γ Δ T k c Δ') := by
  have e1 : c = c' := funext hE
  have e2 : Δ' = Δ'' := funext hΔ
  subst hT e1 e2
  exact h
theorem x_kd {β : Type} {e : Expr} {T : Option γ} {k : β → Option γ} {E E' : β → Pd} {Δ' : β → Δs} (h : PE X e (tE W F Γ Δ T k E' Δ')) (hE : ∀ b, E b = E' b := by intro _; rfl) : PE X e (tE W F Γ Δ T k E Δ') := by
  have e1 : E = E' := funext hE
  subst e1
  exact h
theorem o_kd {β : Type} {e : Expr} {T : Option γ} {k : β → Option γ} {E E' : β → Od} {Δ' : β → Δs} (h : PE X e (tO W F Γ Δ T k E' Δ')) (hE : ∀ b, E b = E' b := by intro _; rfl) : PE X e (tO W F Γ Δ T k E Δ') := by
  have e1 : E = E' := funext hE
  subst e1
  exact h
theorem t_kd {β : Type} {e : Expr} {T : Option γ} {k : β → Option γ} {c c' : β → Bool} {Δ' : β → Δs} (h : PT X e (tTs W F Γ Δ T k c' Δ')) (hE : ∀ b, c b = c' b := by intro _; rfl) : PT X e (tTs W F Γ Δ T k c Δ') := by
  have e1 : c = c' := funext hE
  subst e1
  exact h
theorem s_T {st : List Stmt} {N : Fn γ} {T T' : Option γ} (h : PSs X st (tS F Γ Δ N T')) (hT : T = T' := by rfl) : PSs X st (tS F Γ Δ N T) := by
  subst hT
  exact h
theorem t_totV {β : Type} {e : Expr} {T : Option γ} {c : β → Bool} {Δ' : β → Δs} (c0 : Bool) (b0 : β) (hβ : ∀ b, b = b0) (he : PT X e (tTs W F Γ Δ T (fun _ : β => T) c Δ')) (hΔ : Δ = Δ' b0 := by rfl) (hc : c0 = c b0 := by rfl) : PT X e (tTs W F Γ Δ T (fun _ : Unit => T) (fun _ => c0) fun _ => Δ) := by
  have h := t_tot b0 hβ he
  rw [← hc, ← hΔ] at h
  exact h
theorem x_totV {β : Type} {e : Expr} {T : Option γ} {E : β → Pd} {Δ' : β → Δs} (E0 : Pd) (b0 : β) (hβ : ∀ b, b = b0) (he : PE X e (tE W F Γ Δ T (fun _ : β => T) E Δ')) (hΔ : Δ = Δ' b0 := by rfl) (hc : E0 = E b0 := by rfl) : PE X e (tE W F Γ Δ T (fun _ : Unit => T) (fun _ => E0) fun _ => Δ) := by
  have h := x_tot b0 hβ he
  rw [← hc, ← hΔ] at h
  exact h
end
end L3
end
section
set_option Elab.async false
set_option linter.all false
set_option maxRecDepth 100000
set_option maxHeartbeats 4000000
namespace L3
open PySem PySem.Spec PyProof.Rows L2
/-- the law's script: a list of integers that nobody changes, locked or kept by the head -/
def pS (K : PySem.W.Frag) (xs : List Int) : Pd where
  pr H v := ∃ a, v = .ref a ∧ xs.length ≤ sizeLine ∧ ((∃ o, H a = some (.frz o (.lst (xs.map V.int)))) ∨ ∃ (o : Obj) (its : Array Value) (n : Nat), K.lookup a = some o ∧ o.cls = .type "list" ∧ o.dict = none ∧ o.data = .seq its n ∧ its.size ≤ sizeLine ∧ Vals (xs.map V.int) its.toList)
  mono := fun f ⟨a, e, z, h⟩ => ⟨a, e, z, h.imp (fun ⟨o, h⟩ => ⟨o, f _ _ trivial h⟩) id⟩
theorem pS_sq {K : PySem.W.Frag} {xs : List Int} {H : Hp} {v : V} (h : (pS K xs).pr H v) : ∃ a, v = .ref a ∧ SqL K H a (xs.map V.int) ∧ xs.length ≤ sizeLine := by
  obtain ⟨a, e, z, h⟩ := h
  refine ⟨a, e, ?_, z⟩
  rcases h with ⟨o, h⟩ | h
  · exact .inl (.inr ⟨o, h⟩)
  · exact .inr h
theorem pS_of {K : PySem.W.Frag} {xs : List Int} {H : Hp} {v : V} (h : (pL pInt xs).pr H v) : (pS K xs).pr H v := by
  obtain ⟨a, o, vs, e, h, z, p⟩ := h
  rw [paired_ints p] at h
  exact ⟨a, e, z, .inl ⟨o, h⟩⟩
section
variable {X : Cx} {W : Bool} {F : Fm} {Γ : Gm} {Δ : Δs} {γ : Type}
section
variable {a b : Expr} {pos : Pos} {β1 β2 : Type} {T : Option γ} {k1 : β1 → Option γ} {Δ1 : β1 → Δs} {Δ2 : β1 → β2 → Δs} {xs : β1 → List Int} {j : β1 → β2 → Int}
theorem x_ixS {k : (β1 × β2) × Int → Option γ} (ha : PE X a (tE W F Γ Δ T k1 (fun b => pS X.K (xs b)) Δ1)) (hb : ∀ b1, PE X b (tE W F Γ (Δ1 b1) (k1 b1) (fun b2 => (atI (xs b1) (j b1 b2)).bind fun x => k ((b1, b2), x)) (fun b => pInt (j b1 b)) (Δ2 b1)))
    (hs : PlainIx b := by exact fun _ _ => rfl) : PE X (.Subscript a b pos) (tE W F Γ Δ T k (fun b => pInt b.2) fun b => Δ2 b.1.1 b.1.2) :=
  x2p (b_ix ix_list hs) ha hb fun b1 b2 x σ v w H Q ok e hv hw q => by
    obtain ⟨p, ev, sq, _⟩ := pS_sq hv
    obtain ⟨u, eu, pu⟩ := paired_atI (ints_paired (H := H) (xs b1)) e
    exact ⟨p, _, j b1 b2, u, ev, hw, sq, eu, q u pu⟩
end
section
variable {a : Expr} {pos p : Pos} {β : Type} {T : Option γ} {Δ1 : β → Δs} {xs : β → List Int} {k : β → Option γ}
theorem x_lenS (hm : X.mg "len" = none) (ha : PE X a (tE W F Γ Δ T k (fun b => pS X.K (xs b)) Δ1)) (hg : Gl X "len" := by rfl) (hs : starEach [a] X.env = (false, eval a X.env) :: starEach [] X.env := by rfl) : PE X (.Call (.Name "len" p) [a] [] pos) (tE W F Γ Δ T k (fun b => pInt ((xs b).length : Int)) Δ1) :=
  x1t (u_callB call_len_seq hg hm PySem.boot_len (by decide) (by decide) hs) ha fun b σ v H Q ok hv q => by
    obtain ⟨p, ev, sq, _⟩ := pS_sq hv
    rw [ev]
    exact ⟨p, _, rfl, .inl sq, by rw [List.length_map]; exact q _ rfl⟩
end
end

def Sp_S (K : PySem.W.Frag) (Mf : List Int → Option Bool) : Sp := fun vs H Q _ => ∃ (a : Addr) (ns : List Int), vs = [.ref a] ∧ ns.length ≤ sizeLine ∧ SqL K H a (ns.map V.int) ∧ ∃ r, Mf ns = some r ∧ ∀ H', Q (.bl r) H'
theorem fn_S {P : Program} {w : World} {K : PySem.W.Frag} {mg : Str → Option Value} {base : Heap} {x qual : Str} {params : Arguments} {body : List Stmt} {scope : Scope} {dvs : List V} {kws : List (Str × V)} {f : Addr} {fd : FuncData} {N ps : List Str} {k : Nat} {Mf : List Int → Option Bool}
    (FD : FunD K x qual params body scope dvs kws f fd) (S : FnScope N ps scope) (hl : 1 = ps.length)
    (hb : ∀ (cdv : Value) (A : Around) (outer : List Env) (s : Shared) (H : Hp) (E : XK) (hr : Room k (A.deeper (envOfC qual scope s.heap.objs.size f cdv))) (M : List (List Addr)) (a1 : List Int), PSs (cxOf CX0 P w K mg base N qual scope f cdv A outer s H E).nox body
      (tS ⟨H, M⟩ (([pS K a1] : List Pd).map some ++ List.replicate (N.length - 1) none) [] (fF (RF ⟨H, M⟩ (fun _ => []) pBl)) (Mf a1))) : FnOk P w K mg base CX0 (k + 1) f fd ps (Sp_S K Mf) := by
  refine FD.ok S (fun vs H Q E h => ?_) (fun cdv A outer s H vs Q E hr h => ?_)
  · obtain ⟨a, ns, rfl, _⟩ := h
    exact hl
  · obtain ⟨a, ns, rfl, z, sq, r, hM, fin⟩ := h
    have fin' : ∀ M, RF ⟨H, M⟩ (fun _ => []) pBl r Q := fun M v H' _ hv => by
      rw [show v = .bl r from hv]
      exact fin H'
    by_cases hu : H a = some (.lst (ns.map V.int))
    · refine ⟨tS ⟨H, [[a]]⟩ (([pV (.ref a)] : List Pd).map some ++ List.replicate (N.length - 1) none) [⟨.ref a, oL pInt ns, some 0⟩] (fF (RF ⟨H, [[a]]⟩ (fun _ => []) pBl)) (Mf ns), PSs.nox (s_frz (i := 0) (c := ⟨.ref a, oL pInt ns, some 0⟩) 0 ?_), ok_start (Δ := [⟨[a], .ref a, oL pInt ns, some 0⟩]) rfl (.cons rfl .nil) ?_ ?_ ?_, r, hM, fin' _⟩
      · refine (hb cdv A outer s H E hr [[a]] ns).wk fun D σ H' ⟨ok, g, e, q⟩ => ⟨⟨ok.hk, ok.len, fun i p e => ?_⟩, g, e, q⟩
        cases i with
        | zero =>
          cases e
          obtain ⟨v, hs, hv⟩ := ok.gam 0 (pL pInt ns) rfl
          exact ⟨v, hs, pS_of hv⟩
        | succ i => exact ok.gam (i + 1) p e
      · intro c hc
        rw [List.mem_singleton.mp hc]
        exact ⟨a, ns.map V.int, rfl, rfl, hu, z, ints_paired ns⟩
      · exact List.nodup_cons.mpr ⟨by simp, List.nodup_nil⟩
      · intro i c h
        match i, h with
        | 0, h => cases h; rfl
        | _ + 1, h => cases h
    · refine ⟨_, PSs.nox (hb cdv A outer s H E hr [] ns), ok_start (Δ := []) rfl (.cons ⟨a, rfl, z, ?_⟩ .nil) (fun _ h => nomatch h) List.nodup_nil (fun _ _ h => nomatch h), r, hM, fin' _⟩
      rcases sq with (h | ⟨o, h⟩) | h
      · exact absurd h hu
      · exact .inl ⟨o, h⟩
      · exact .inr h
end L3
end
section
set_option Elab.async false
set_option linter.all false
set_option maxRecDepth 100000
set_option maxHeartbeats 4000000
namespace L3
open PySem PySem.Spec PyProof.Rows L2
/-! ### dicts: keys are texts or integers -/
class Ky (κ : Type) where
  ky : κ → Key
  kp : κ → Pd
  inj : ∀ {x y : κ}, ky x = ky y → x = y
  is : ∀ {x : κ} {H : Hp} {v : V}, (kp x).pr H v → v = kV (ky x)
  of : ∀ (x : κ) (H : Hp), (kp x).pr H (kV (ky x))
@[reducible] instance kyS : Ky Str := { ky := .inr, kp := pStr, inj := fun h => Sum.inr.inj h, is := fun h => h, of := fun _ _ => rfl }
@[reducible] instance kyI : Ky Int := { ky := .inl, kp := pInt, inj := fun h => Sum.inl.inj h, is := fun h => h, of := fun _ _ => rfl }
section
variable {κ α : Type} [DecidableEq κ]
def dget (d : List (κ × α)) (k : κ) : Option α := (d.find? fun p => decide (p.1 = k)).map (·.2)
def dhas (d : List (κ × α)) (k : κ) : Bool := d.any fun p => decide (p.1 = k)
def dput (d : List (κ × α)) (k : κ) (v : α) : List (κ × α) := if (d.any fun p => decide (p.1 = k)) = true then d.map (fun p => if p.1 = k then (p.1, v) else p) else d ++ [(k, v)]
def ddel (d : List (κ × α)) (k : κ) : List (κ × α) := d.filter fun p => decide (p.1 ≠ k)
theorem dhas_get (k : κ) : ∀ d : List (κ × α), dhas d k = (dget d k).isSome
  | [] => rfl
  | p :: r => by
    have ih := dhas_get k r
    unfold dhas dget at ih ⊢
    rw [List.any_cons, List.find?_cons]
    by_cases h : p.1 = k
    · simp [h]
    · simp only [decide_eq_false h, Bool.false_or]; exact ih
theorem dput_len (d : List (κ × α)) (k : κ) (v : α) : (dput d k v).length ≤ d.length + 1 := by
  unfold dput
  split
  · rw [List.length_map]; omega
  · rw [List.length_append]; exact Nat.le_refl _
theorem ddel_len (d : List (κ × α)) (k : κ) : (ddel d k).length ≤ d.length := List.length_filter_le _ _
end
section
variable {κ α : Type} [DecidableEq κ] [Ky κ]
/-- pairs and what stands for them -/
abbrev PrM (E : α → Pd) (H : Hp) (x : κ × α) (u : Key × V) : Prop := u.1 = Ky.ky x.1 ∧ (E x.2).pr H u.2
theorem prM_mono {E : α → Pd} {H H' : Hp} (f : Fzs H H') {xs : List (κ × α)} {us : List (Key × V)} (p : Paired (PrM E H) xs us) : Paired (PrM E H') xs us := paired_mono (fun x _ q => ⟨q.1, (E x.2).mono f q.2⟩) p
def pM (E : α → Pd) (xs : List (κ × α)) : Pd where
  pr H v := ∃ a o kvs, v = .ref a ∧ H a = some (.frz o (.dK kvs)) ∧ xs.length ≤ sizeLine ∧ Paired (PrM E H) xs kvs
  mono := fun f ⟨a, o, vs, e, h, z, p⟩ => ⟨a, o, vs, e, f _ _ trivial h, z, prM_mono f p⟩
def oM (E : α → Pd) (xs : List (κ × α)) : Od where
  pr G H v := ∃ p kvs, G = [p] ∧ v = .ref p ∧ H p = some (.dK kvs) ∧ xs.length ≤ sizeLine ∧ Paired (PrM E H) xs kvs
  pd := pM E xs
  frame := fun ⟨p, vs, eg, ev, h, z, q⟩ k f => ⟨p, vs, eg, ev, k p (by rw [eg]; exact List.mem_singleton.mpr rfl) _ h, z, prM_mono f q⟩
  cells := fun ⟨p, vs, eg, ev, h, z, q⟩ => one_cells eg h trivial
  lockd := fun ⟨p, vs, eg, ev, h, z, q⟩ h1 h2 => by
    obtain ⟨o, ho⟩ := h2 p (by rw [eg]; exact List.mem_singleton.mpr rfl) _ h
    exact ⟨p, o, vs, ev, ho, z, prM_mono (lk_fzs (one_cells eg h trivial) h1) q⟩
theorem dget_neg {κ α : Type} [DecidableEq κ] {p : κ × α} {r : List (κ × α)} {k : κ} (h : ¬ p.1 = k) : dget (p :: r) k = dget r k := by unfold dget; rw [List.find?_cons, decide_eq_false h]
theorem dget_pos {κ α : Type} [DecidableEq κ] {p : κ × α} {r : List (κ × α)} {k : κ} (h : p.1 = k) : dget (p :: r) k = some p.2 := by unfold dget; rw [List.find?_cons, decide_eq_true h]; rfl
theorem prM_get {E : α → Pd} {H : Hp} (k : κ) : ∀ {xs : List (κ × α)} {us : List (Key × V)}, Paired (PrM E H) xs us → (dget xs k = none ∧ valV us (Ky.ky k) = none) ∨ ∃ x v, dget xs k = some x ∧ valV us (Ky.ky k) = some v ∧ (E x).pr H v
  | [], [], .nil => .inl ⟨rfl, rfl⟩
  | x :: xs, u :: us, .cons r t => by
    by_cases h : x.1 = k
    · exact .inr ⟨x.2, u.2, dget_pos h, valV_pos (by rw [r.1, h]), r.2⟩
    · rw [dget_neg h, valV_neg (fun z => h (Ky.inj (by rw [← r.1, z])))]
      exact prM_get k t
theorem prM_any {E : α → Pd} {H : Hp} (k : κ) : ∀ {xs : List (κ × α)} {us : List (Key × V)}, Paired (PrM E H) xs us → (xs.any fun p => decide (p.1 = k)) = us.any fun kv => decide (kv.1 = Ky.ky k)
  | _, _, .nil => rfl
  | _, _, .cons (a := x) (b := u) r t => by
    rw [List.any_cons, List.any_cons, prM_any k t]
    congr 1
    by_cases h : x.1 = k
    · rw [decide_eq_true h, decide_eq_true (by rw [r.1, h])]
    · rw [decide_eq_false h, decide_eq_false (fun z => h (Ky.inj (by rw [← r.1, z])))]
theorem prM_map {E : α → Pd} {H : Hp} {k : κ} {y : α} {v : V} (hv : (E y).pr H v) : ∀ {xs : List (κ × α)} {us : List (Key × V)}, Paired (PrM E H) xs us → Paired (PrM E H) (xs.map fun p => if p.1 = k then (p.1, y) else p) (us.map fun kv => if kv.1 = Ky.ky k then (kv.1, v) else kv)
  | _, _, .nil => .nil
  | _, _, .cons (a := x) (b := u) r t => by
    rw [List.map_cons, List.map_cons]
    refine .cons ?_ (prM_map hv t)
    by_cases h : x.1 = k
    · rw [if_pos h, if_pos (by rw [r.1, h])]
      exact ⟨r.1, hv⟩
    · rw [if_neg h, if_neg (fun z => h (Ky.inj (by rw [← r.1, z])))]
      exact r
theorem prM_put {E : α → Pd} {H : Hp} {k : κ} {y : α} {v : V} (hv : (E y).pr H v) {xs : List (κ × α)} {us : List (Key × V)} (h : Paired (PrM E H) xs us) : Paired (PrM E H) (dput xs k y) (putK us (Ky.ky k) v) := by
  unfold dput putK
  rw [prM_any k h]
  split
  · exact prM_map hv h
  · exact paired_app h (.cons ⟨rfl, hv⟩ .nil)
theorem prM_del {E : α → Pd} {H : Hp} (k : κ) : ∀ {xs : List (κ × α)} {us : List (Key × V)}, Paired (PrM E H) xs us → Paired (PrM E H) (ddel xs k) (dropK us (Ky.ky k))
  | _, _, .nil => .nil
  | _, _, .cons (a := x) (b := u) r t => by
    have ih := prM_del k t
    unfold ddel dropK at ih ⊢
    rw [List.filter_cons, List.filter_cons]
    by_cases h : x.1 = k
    · rw [if_neg (by simp [h]), if_neg (by simp [r.1, h])]
      exact ih
    · rw [if_pos (by simp [h]), if_pos (by simp only [decide_eq_true_eq]; exact fun z => h (Ky.inj (by rw [← r.1, z])))]
      exact .cons r ih
theorem prM_keys {E : α → Pd} {H : Hp} : ∀ {xs : List (κ × α)} {us : List (Key × V)}, Paired (PrM E H) xs us → us.map (·.1) = xs.map fun p => Ky.ky p.1
  | _, _, .nil => rfl
  | _, _, .cons r t => by rw [List.map_cons, List.map_cons, prM_keys t, r.1]
theorem prM_keyP {E : α → Pd} {H H' : Hp} : ∀ {xs : List (κ × α)} {us : List (Key × V)}, Paired (PrM E H) xs us → Paired (fun (x : κ) u => (Ky.kp x).pr H' u) (xs.map Prod.fst) (us.map fun kv => kV kv.1)
  | _, _, .nil => .nil
  | _, _, .cons r t => by
    rw [List.map_cons, List.map_cons]
    refine .cons ?_ (prM_keyP t)
    rw [r.1]
    exact Ky.of _ _
end
section
variable {X : Cx} {W : Bool} {F : Fm} {Γ : Gm} {Δ : Δs} {γ : Type} {κ α : Type} [DecidableEq κ] [Ky κ]
/-! ### dicts that are read: locked, or a cell of one's own -/
def RM (E : α → Pd) (xs : List (κ × α)) (H : Hp) (v : V) : Prop := ∃ a kvs, v = .ref a ∧ Rd H a (.dK kvs) ∧ xs.length ≤ sizeLine ∧ Paired (PrM E H) xs kvs
def RdM (Δ : Δs) (p : Pd) (E : α → Pd) (xs : List (κ × α)) : Prop := ∀ F H v, Hk F Δ H → p.pr H v → RM E xs H v
theorem rdMF {E : α → Pd} {xs : List (κ × α)} : RdM Δ (pM E xs) E xs := fun _ _ _ _ ⟨a, o, vs, e, h, z, p⟩ => ⟨a, vs, e, .inr ⟨o, h⟩, z, p⟩
theorem rdMO {E : α → Pd} {xs : List (κ × α)} {v : V} {prm : Option Nat} (j : Nat) (h : Δ[j]? = some ⟨v, oM E xs, prm⟩ := by rfl) : RdM Δ (pV v) E xs := fun F H w hk e => by
  have e : w = v := e
  subst e
  obtain ⟨_, p, vs, _, ev, hp, z, q⟩ := hk.at h
  exact ⟨p, vs, ev, .inl hp, z, q⟩
/-- a new dict -/
theorem Ok.newM {σ : SS} {H : Hp} {p : Addr} {E : α → Pd} {xs : List (κ × α)} {kvs : List (Key × V)} (ok : Ok F Γ Δ σ H) (hp : H p = none) (z : xs.length ≤ sizeLine) (q : Paired (PrM E H) xs kvs) : OkN W F Γ H (.ref p) (oM E xs) Δ σ (upd H p (.dK kvs)) ∧ Gr H (upd H p (.dK kvs)) := by
  have g : Gr H (upd H p (.dK kvs)) := Gr.new hp
  exact ⟨ok.add g (List.nodup_cons.mpr ⟨List.not_mem_nil, List.nodup_nil⟩) (fun a ha => by rw [List.mem_singleton.mp ha]; exact hp) ⟨p, kvs, rfl, rfl, upd_same, z, prM_mono g.fzs q⟩, g⟩
section
variable {a b : Expr} {pos : Pos} {β1 β2 : Type} {T : Option γ} {k1 : β1 → Option γ} {Δ1 : β1 → Δs} {Δ2 : β1 → β2 → Δs} {E1 : β1 → Pd} {Ee : α → Pd} {xs : β1 → β2 → List (κ × α)} {j : β1 → β2 → κ}
/-- d[k] -/
theorem x_dget {k : (β1 × β2) × α → Option γ} (hu : X.A.units + 64 < cLine) (ha : PE X a (tE W F Γ Δ T k1 E1 Δ1)) (hb : ∀ b1, PE X b (tE W F Γ (Δ1 b1) (k1 b1) (fun b2 => (dget (xs b1 b2) (j b1 b2)).bind fun x => k ((b1, b2), x)) (fun b => Ky.kp (j b1 b)) (Δ2 b1)))
    (rd : ∀ b1 b2, RdM (Δ2 b1 b2) (E1 b1) Ee (xs b1 b2)) (hs : NoSl b := by exact fun _ _ => rfl) : PE X (.Subscript a b pos) (tE W F Γ Δ T k (fun b => Ee b.2) fun b => Δ2 b.1.1 b.1.2) :=
  x2p (r := fun x y H Q => ∃ a v, x = .ref a ∧ DGet H a y (some v) ∧ Q v H) (fun _ _ ha hb => pe_dget (by omega) ha hb hs) ha hb fun b1 b2 x σ v w H Q ok e hv hw q => by
    obtain ⟨p, kvs, ev, r, _, pr⟩ := rd b1 b2 F H v ok.hk hv
    rcases prM_get (j b1 b2) pr with ⟨e0, _⟩ | ⟨x', u, e1, e2, hu⟩
    · rw [e] at e0; cases e0
    · rw [e] at e1; cases e1
      exact ⟨p, u, ev, .inl ⟨kvs, Ky.ky (j b1 b2), r, Ky.is hw, e2.symm⟩, q u hu⟩
end
section
variable {a b : Expr} {pos : Pos} {β1 β2 : Type} {T : Option γ} {k1 : β1 → Option γ} {k : β1 × β2 → Option γ} {Δ1 : β1 → Δs} {Δ2 : β1 → β2 → Δs} {E2 : β1 → β2 → Pd} {Ee : α → Pd} {xs : β1 → β2 → List (κ × α)} {i : β1 → κ}
/-- k in d -/
theorem has_of {E : α → Pd} {H : Hp} {xs : List (κ × α)} {us : List (Key × V)} (k : κ) (p : Paired (PrM E H) xs us) : (valV us (Ky.ky k)).isSome = dhas xs k := by
  rw [dhas_get]
  rcases prM_get k p with ⟨e0, e1⟩ | ⟨x, v, e0, e1, _⟩ <;> rw [e0, e1] <;> rfl
theorem x_dinG {op : CmpOp} {c : Bool → Bool} (hp : ∀ ta tb, PE X a ta → PE X b tb → PC X op a b (fun σ H Q => ta σ H fun y H1 => tb σ H1 fun x H2 => ∃ a o, x = .ref a ∧ DGet H2 a y o ∧ Q (.bl (c o.isSome)) H2)) (hm : behindInMarks op b = false)
    (ha : PE X a (tE W F Γ Δ T k1 (fun b => Ky.kp (i b)) Δ1)) (hb : ∀ b1, PE X b (tE W F Γ (Δ1 b1) (k1 b1) (fun b2 => k (b1, b2)) (E2 b1) (Δ2 b1))) (rd : ∀ b1 b2, RdM (Δ2 b1 b2) (E2 b1 b2) Ee (xs b1 b2)) :
    PE X (.Compare a [op] [b] pos) (tE W F Γ Δ T k (fun b => pBl (c (dhas (xs b.1 b.2) (i b.1)))) fun b => Δ2 b.1 b.2) :=
  x2t (r := fun y x H Q => ∃ a o, x = .ref a ∧ DGet H a y o ∧ Q (.bl (c o.isSome)) H) (fun ta tb ha hb => pe_cmp (hp ta tb ha hb) hm) ha hb fun b1 b2 σ v w H Q ok hv hw q => by
    obtain ⟨p, kvs, ev, r, _, pr⟩ := rd b1 b2 F H w ok.hk hw
    refine ⟨p, valV kvs (Ky.ky (i b1)), ev, .inl ⟨kvs, _, r, Ky.is hv, rfl⟩, ?_⟩
    rw [has_of (i b1) pr]
    exact q _ rfl
theorem t_dinG {op : CmpOp} {c : Bool → Bool} (hp : ∀ ta tb, PE X a ta → PE X b tb → PC X op a b (fun σ H Q => ta σ H fun y H1 => tb σ H1 fun x H2 => ∃ a o, x = .ref a ∧ DGet H2 a y o ∧ Q (.bl (c o.isSome)) H2)) (hm : behindInMarks op b = false)
    (ha : PE X a (tE W F Γ Δ T k1 (fun b => Ky.kp (i b)) Δ1)) (hb : ∀ b1, PE X b (tE W F Γ (Δ1 b1) (k1 b1) (fun b2 => k (b1, b2)) (E2 b1) (Δ2 b1))) (rd : ∀ b1 b2, RdM (Δ2 b1 b2) (E2 b1 b2) Ee (xs b1 b2)) :
    PT X (.Compare a [op] [b] pos) (tTs W F Γ Δ T k (fun b => c (dhas (xs b.1 b.2) (i b.1))) fun b => Δ2 b.1 b.2) :=
  t2t (r := fun y x H Q => ∃ a o, x = .ref a ∧ DGet H a y o ∧ Q (.bl (c o.isSome)) H) (fun ta tb ha hb => (pt_cmp (hp ta tb ha hb) hm).wk fun σ H Q h => h) ha hb fun b1 b2 σ v w H Q ok hv hw q => by
    obtain ⟨p, kvs, ev, r, _, pr⟩ := rd b1 b2 F H w ok.hk hw
    refine ⟨p, valV kvs (Ky.ky (i b1)), ev, .inl ⟨kvs, _, r, Ky.is hv, rfl⟩, ?_⟩
    rw [has_of (i b1) pr]
    exact q _ rfl
theorem x_din (hu : X.A.units + 64 < cLine) (ha : PE X a (tE W F Γ Δ T k1 (fun b => Ky.kp (i b)) Δ1)) (hb : ∀ b1, PE X b (tE W F Γ (Δ1 b1) (k1 b1) (fun b2 => k (b1, b2)) (E2 b1) (Δ2 b1))) (rd : ∀ b1 b2, RdM (Δ2 b1 b2) (E2 b1 b2) Ee (xs b1 b2)) (hm : behindInMarks .In b = false := by rfl) :
    PE X (.Compare a [.In] [b] pos) (tE W F Γ Δ T k (fun b => pBl (dhas (xs b.1 b.2) (i b.1))) fun b => Δ2 b.1 b.2) := x_dinG (c := id) (fun _ _ ha hb => pc_din (by omega) ha hb) hm ha hb rd
theorem x_dnin (hu : X.A.units + 64 < cLine) (ha : PE X a (tE W F Γ Δ T k1 (fun b => Ky.kp (i b)) Δ1)) (hb : ∀ b1, PE X b (tE W F Γ (Δ1 b1) (k1 b1) (fun b2 => k (b1, b2)) (E2 b1) (Δ2 b1))) (rd : ∀ b1 b2, RdM (Δ2 b1 b2) (E2 b1 b2) Ee (xs b1 b2)) (hm : behindInMarks .NotIn b = false := by rfl) :
    PE X (.Compare a [.NotIn] [b] pos) (tE W F Γ Δ T k (fun b => pBl (!dhas (xs b.1 b.2) (i b.1))) fun b => Δ2 b.1 b.2) := x_dinG (c := fun x => !x) (fun _ _ ha hb => pc_dnotin (by omega) ha hb) hm ha hb rd
theorem t_din (hu : X.A.units + 64 < cLine) (ha : PE X a (tE W F Γ Δ T k1 (fun b => Ky.kp (i b)) Δ1)) (hb : ∀ b1, PE X b (tE W F Γ (Δ1 b1) (k1 b1) (fun b2 => k (b1, b2)) (E2 b1) (Δ2 b1))) (rd : ∀ b1 b2, RdM (Δ2 b1 b2) (E2 b1 b2) Ee (xs b1 b2)) (hm : behindInMarks .In b = false := by rfl) :
    PT X (.Compare a [.In] [b] pos) (tTs W F Γ Δ T k (fun b => dhas (xs b.1 b.2) (i b.1)) fun b => Δ2 b.1 b.2) := t_dinG (c := id) (fun _ _ ha hb => pc_din (by omega) ha hb) hm ha hb rd
theorem t_dnin (hu : X.A.units + 64 < cLine) (ha : PE X a (tE W F Γ Δ T k1 (fun b => Ky.kp (i b)) Δ1)) (hb : ∀ b1, PE X b (tE W F Γ (Δ1 b1) (k1 b1) (fun b2 => k (b1, b2)) (E2 b1) (Δ2 b1))) (rd : ∀ b1 b2, RdM (Δ2 b1 b2) (E2 b1 b2) Ee (xs b1 b2)) (hm : behindInMarks .NotIn b = false := by rfl) :
    PT X (.Compare a [.NotIn] [b] pos) (tTs W F Γ Δ T k (fun b => !dhas (xs b.1 b.2) (i b.1)) fun b => Δ2 b.1 b.2) := t_dinG (c := fun x => !x) (fun _ _ ha hb => pc_dnotin (by omega) ha hb) hm ha hb rd
end
end
end L3
end
section
set_option Elab.async false
set_option linter.all false
set_option maxRecDepth 100000
set_option maxHeartbeats 4000000
namespace L3
open PySem PySem.Spec PyProof.Rows L2
/-! ### texts in order -/
theorem lt_irr : ∀ a : List Nat, ltCps a a = false
  | [] => rfl
  | x :: r => by simp [ltCps, lt_irr r]
theorem lt_tri : ∀ {a b : List Nat}, ltCps a b = false → ltCps b a = false → a = b
  | [], [], _, _ => rfl
  | [], _ :: _, h, _ => by simp [ltCps] at h
  | _ :: _, [], _, h => by simp [ltCps] at h
  | x :: r, y :: t, h1, h2 => by
    simp only [ltCps, Bool.or_eq_false_iff, decide_eq_false_iff_not, Nat.not_lt] at h1 h2
    have e : x = y := by omega
    subst e
    simp only [beq_self_eq_true, Bool.true_and] at h1 h2
    rw [lt_tri h1.2 h2.2]
theorem le_tr : ∀ {a b c : List Nat}, ltCps b a = false → ltCps c b = false → ltCps c a = false
  | [], _, [], _, _ => rfl
  | [], b, z :: c, h1, h2 => by simp [ltCps]
  | x :: a, [], _, h1, _ => by simp [ltCps] at h1
  | x :: a, y :: b, [], _, h2 => by simp [ltCps] at h2
  | x :: a, y :: b, z :: c, h1, h2 => by
    simp only [ltCps, Bool.or_eq_false_iff, decide_eq_false_iff_not, Nat.not_lt, Bool.and_eq_false_imp, beq_iff_eq] at h1 h2 ⊢
    refine ⟨by omega, fun e => ?_⟩
    have e1 : y = x := by omega
    have e2 : z = y := by omega
    exact le_tr (h1.2 e1) (h2.2 e2)
def leS (x y : Str) : Bool := !ltCps y.cps.toList x.cps.toList
theorem leS_tr {x y z : Str} (h1 : leS x y = true) (h2 : leS y z = true) : leS x z = true := by
  unfold leS at *
  simp only [Bool.not_eq_true'] at *
  exact le_tr h1 h2
theorem leS_as {x y : Str} (h1 : leS x y = true) (h2 : leS y x = true) : x = y := by
  unfold leS at *
  simp only [Bool.not_eq_true'] at *
  exact PyProof.Rows.ext_toList (lt_tri h2 h1)
theorem ltCps_as : ∀ {a b : List Nat}, ltCps a b = true → ltCps b a = false
  | [], [], h => by simp [ltCps] at h
  | [], _ :: _, _ => rfl
  | _ :: _, [], h => by simp [ltCps] at h
  | x :: r, y :: t, h => by
    simp only [ltCps, Bool.or_eq_true, decide_eq_true_eq, Bool.and_eq_true, beq_iff_eq] at h
    simp only [ltCps, Bool.or_eq_false_iff, decide_eq_false_iff_not, Nat.not_lt, Bool.and_eq_false_imp, beq_iff_eq]
    rcases h with h | ⟨e, h⟩
    · exact ⟨by omega, fun e => by omega⟩
    · exact ⟨by omega, fun _ => ltCps_as h⟩
theorem leS_tot (x y : Str) : (leS x y || leS y x) = true := by
  unfold leS
  cases h : ltCps y.cps.toList x.cps.toList with
  | false => rfl
  | true => rw [ltCps_as h]; rfl
def srtS (xs : List Str) : List Str := xs.mergeSort leS
theorem srtS_perm (xs : List Str) : (srtS xs).Perm xs := List.mergeSort_perm _ _
theorem srtS_le (xs : List Str) : (srtS xs).Pairwise fun a b => leS a b = true := List.pairwise_mergeSort (le := leS) (fun _ _ _ h1 h2 => leS_tr h1 h2) leS_tot xs
theorem sortedS_eq : ∀ {xs ys : List Str}, xs.Perm ys → (xs.Pairwise fun a b => leS a b = true) → (ys.Pairwise fun a b => leS a b = true) → xs = ys
  | [], ys, p, _, _ => (List.nil_perm.mp p).symm ▸ rfl
  | x :: xs, [], p, _, _ => (List.perm_nil.mp p)
  | x :: xs, y :: ys, p, hx, hy => by
    have rf : ∀ z : Str, leS z z = true := fun z => by unfold leS; rw [lt_irr]; rfl
    have e : x = y := by
      have m1 : x ∈ y :: ys := p.mem_iff.mp List.mem_cons_self
      have m2 : y ∈ x :: xs := p.mem_iff.mpr List.mem_cons_self
      have l1 : leS y x = true := by
        rcases List.mem_cons.mp m1 with h | h
        · rw [h]; exact rf _
        · exact (List.pairwise_cons.mp hy).1 x h
      have l2 : leS x y = true := by
        rcases List.mem_cons.mp m2 with h | h
        · rw [h]; exact rf _
        · exact (List.pairwise_cons.mp hx).1 y h
      exact leS_as l2 l1
    subst e
    rw [sortedS_eq (List.Perm.cons_inv p) (List.pairwise_cons.mp hx).2 (List.pairwise_cons.mp hy).2]
theorem rising_le : ∀ {xs : List Str} {p : Str}, risingS p xs = true → ∀ x ∈ xs, leS p x = true
  | [], _, _, _, h => by simp at h
  | y :: ys, p, h, x, hx => by
    obtain ⟨h1, h2⟩ := Bool.and_eq_true_iff.mp (show (!ltCps y.cps.toList p.cps.toList && risingS y ys) = true from h)
    rcases List.mem_cons.mp hx with e | hx
    · rw [e]; exact h1
    · exact leS_tr (y := y) h1 (rising_le h2 x hx)
theorem rising_pw : ∀ {xs : List Str} {p : Str}, risingS p xs = true → (p :: xs).Pairwise fun a b => leS a b = true
  | [], p, _ => List.pairwise_singleton _ _
  | y :: ys, p, h => by
    obtain ⟨h1, h2⟩ := Bool.and_eq_true_iff.mp (show (!ltCps y.cps.toList p.cps.toList && risingS y ys) = true from h)
    exact List.pairwise_cons.mpr ⟨rising_le h, rising_pw h2⟩
theorem srtS_uniq {xs ys : List Str} (p : ys.Perm xs) (h : sortedS ys = true) : ys = srtS xs := by
  refine sortedS_eq (p.trans (srtS_perm xs).symm) ?_ (srtS_le xs)
  cases ys with
  | nil => exact .nil
  | cons y ys => exact rising_pw h
section
variable {X : Cx} {W : Bool} {F : Fm} {Γ : Gm} {Δ : Δs} {γ : Type} {κ α : Type} [DecidableEq κ] [Ky κ]
theorem call_lenM : CallR X (.builtin "len") (fun xs H Q => ∃ a kvs, xs = [V.ref a] ∧ Rd H a (.dK kvs) ∧ Q (.int kvs.length) H) := by
  intro pins s σ H xs us Q I r h
  obtain ⟨a, kvs, rfl, ha, q⟩ := h
  obtain ⟨u, rfl, ru⟩ := vals1 r
  cases ru
  exact d_len I ha fun t s' I' => ⟨.int kvs.length, H, I', ⟨t, rfl⟩, q⟩
section
variable {e a : Expr} {r : V → Hp → VK → Prop} {β : Type} {T : Option γ} {E1 : β → Pd} {Δ1 : β → Δs}
theorem x1m {k : β → Option γ} {Ee : α → Pd} {ys : β → List (κ × α)} (h1 : Un1 X e a r) (ha : PE X a (tE W F Γ Δ T k E1 Δ1))
    (hv : ∀ b σ v H Q, Ok F Γ (Δ1 b) σ H → (E1 b).pr H v → (∀ p vs, H p = none → (ys b).length ≤ sizeLine → Paired (PrM Ee H) (ys b) vs → Q (.ref p) (upd H p (.dK vs))) → r v H Q) : PE X e (tO W F Γ Δ T k (fun b => oM Ee (ys b)) Δ1) :=
  (h1 _ ha).wk fun σ H Q ⟨ok, g, e, q⟩ => ⟨ok, g, e, fun b v H' kb f ok' hp => hv b σ v H' Q ok' hp fun p vs np z pr => by
    obtain ⟨o2, f2⟩ := ok'.newM np z pr
    exact q b _ _ kb (f.trans f2.st) (o2.since f)⟩
end
section
variable {a : Expr} {pos p : Pos} {β : Type} {T : Option γ} {Δ1 : β → Δs} {E1 : β → Pd} {Ee : α → Pd} {xs : β → List (κ × α)} {k : β → Option γ}
/-- len(d) -/
theorem x_lenM (hm : X.mg "len" = none) (ha : PE X a (tE W F Γ Δ T k E1 Δ1)) (rd : ∀ b, RdM (Δ1 b) (E1 b) Ee (xs b)) (hg : Gl X "len" := by rfl) (hs : starEach [a] X.env = (false, eval a X.env) :: starEach [] X.env := by rfl) : PE X (.Call (.Name "len" p) [a] [] pos) (tE W F Γ Δ T k (fun b => pInt ((xs b).length : Int)) Δ1) :=
  x1t (u_callB call_lenM hg hm PySem.boot_len (by decide) (by decide) hs) ha fun b σ v H Q ok hv q => by
    obtain ⟨p, vs, ev, sq, _, pr⟩ := rd b F H v ok.hk hv
    rw [ev]
    exact ⟨p, vs, rfl, sq, by rw [← paired_len pr]; exact q _ rfl⟩
/-- dict(d) -/
theorem x_dictD (hm : X.mg "dict" = none) (ha : PE X a (tE W F Γ Δ T k E1 Δ1)) (rd : ∀ b, RdM (Δ1 b) (E1 b) Ee (xs b)) (hg : Gl X "dict" := by rfl) (hs : starEach [a] X.env = (false, eval a X.env) :: starEach [] X.env := by rfl) : PE X (.Call (.Name "dict" p) [a] [] pos) (tO W F Γ Δ T k (fun b => oM Ee (xs b)) Δ1) :=
  x1m (u_callTy call_dictD hg hm (by decide +kernel) (by decide) (by decide) hs) ha fun b σ v H Q ok hv q => by
    obtain ⟨p, vs, ev, sq, z, pr⟩ := rd b F H v ok.hk hv
    rw [ev]
    exact ⟨p, vs, rfl, sq, fun l hl => q l vs hl z pr⟩
/-- list(d) -/
theorem x_listD (hm : X.mg "list" = none) (ha : PE X a (tE W F Γ Δ T k E1 Δ1)) (rd : ∀ b, RdM (Δ1 b) (E1 b) Ee (xs b)) (hg : Gl X "list" := by rfl) (hs : starEach [a] X.env = (false, eval a X.env) :: starEach [] X.env := by rfl) (hc : X.calm = true := by rfl) : PE X (.Call (.Name "list" p) [a] [] pos) (tO W F Γ Δ T k (fun b => oL Ky.kp ((xs b).map Prod.fst)) Δ1) :=
  x1n (u_callTy (call_listD hc) hg hm (by decide +kernel) (by decide) (by decide) hs) ha fun b σ v H Q ok hv q => by
    obtain ⟨p, vs, ev, sq, z, pr⟩ := rd b F H v ok.hk hv
    rw [ev]
    exact ⟨p, vs, rfl, sq, fun l hl => q l _ hl (by rw [List.length_map]; exact z) (prM_keyP pr)⟩
end
/-- sorted(d), texts as keys -/
theorem x_sortedD {a : Expr} {pos p : Pos} {β : Type} {T : Option γ} {Δ1 : β → Δs} {E1 : β → Pd} {Ee : α → Pd} {xs : β → List (Str × α)} {k : β → Option γ} (hm : X.mg "sorted" = none) (ha : PE X a (tE W F Γ Δ T (fun b => grd ((xs b).length < 64) (k b)) E1 Δ1)) (rd : ∀ b, RdM (Δ1 b) (E1 b) Ee (xs b)) (hg : Gl X "sorted" := by rfl) (hs : starEach [a] X.env = (false, eval a X.env) :: starEach [] X.env := by rfl) (hc : X.calm = true := by rfl) :
    PE X (.Call (.Name "sorted" p) [a] [] pos) (tO W F Γ Δ T k (fun b => oL pStr (srtS ((xs b).map Prod.fst))) Δ1) :=
  ((u_callB (call_sortedD hc) hg hm (by decide +kernel) (by decide) (by decide) hs) _ ha).wk fun σ H Q ⟨ok, g, e, q⟩ => ⟨ok, g, e, fun b v H1 kb f ok1 hv => by
    obtain ⟨c, kb⟩ := grd_some kb
    obtain ⟨p, vs, ev, sq, z, pr⟩ := rd b F H1 v ok1.hk hv
    rw [ev]
    refine ⟨p, vs, (xs b).map Prod.fst, rfl, sq, by rw [prM_keys pr, List.map_map]; rfl, by rw [List.length_map]; exact c, fun ys l pm so hl => ?_⟩
    have e := srtS_uniq pm so
    subst e
    obtain ⟨o2, f2⟩ := ok1.newL hl (E := pStr) (xs := srtS ((xs b).map Prod.fst)) (by rw [(srtS_perm _).length_eq, List.length_map]; exact z) (strs_paired _)
    exact q b _ _ kb (f.trans f2.st) (o2.since f)⟩
/-- {} -/
theorem x_dict0 {pos : Pos} {k : Unit → Option γ} (Ee : α → Pd) : PE X (.Dict [] [] pos) (tO W F Γ Δ (k ()) k (fun _ => oM (κ := κ) Ee []) fun _ => Δ) :=
  pe_dnewK.wk fun σ H Q ⟨ok, g, e, q⟩ p np => by
    obtain ⟨o2, f2⟩ := ok.newM (E := Ee) (xs := ([] : List (κ × α))) np (Nat.zero_le _) .nil
    exact q () _ _ e f2.st o2
theorem y_dict0 {pos : Pos} {T : Option γ} (Ee : α → Pd) : PE X (.Dict [] [] pos) (tO W F Γ Δ T (fun _ : Unit => T) (fun _ => oM (κ := κ) Ee []) fun _ => Δ) := x_dict0 (k := fun _ => T) Ee
/-- for k in d -/
theorem i_mkeys {tg l : Expr} {β : Type} {T : Option γ} {k : β → Option γ} {Ex : α → Pd} {xs : β → List (κ × α)} {Δ' : β → Δs} (he : PE X l (tE W F Γ Δ T k (fun b => pM Ex (xs b)) Δ')) : PI X tg l (tI W F Γ Δ T k (Ky.kp (κ := κ)) (fun b => (xs b).map Prod.fst) Δ') :=
  (pi_keys he).wk fun σ H R ⟨ok, g, e, q⟩ => ⟨ok, g, e, fun b v H' kb f ok' ⟨a, o, kvs, ev, h, z, p⟩ => ⟨a, o, ev, .inl ⟨kvs, h, q b _ H' kb f ok' (by rw [List.length_map]; exact z) fun H2 f2 i => by
    have h2 : H2 a = some (.frz o (.dK kvs)) := f2 _ _ trivial h
    rw [List.length_map]
    refine ⟨fun hi => ⟨h2, by rw [← paired_len p]; exact hi⟩, fun hi => ⟨h2, by rw [← paired_len p]; exact hi⟩, fun x v H3 hx hy => ?_⟩
    obtain ⟨e3, ky, vv, ek, ev⟩ := hy
    rw [List.getElem?_map] at hx
    cases hr : (xs b)[i]? with
    | none => rw [hr] at hx; cases hx
    | some m =>
      rw [hr] at hx
      have hx : m.1 = x := by simpa using hx
      obtain ⟨u, hu, pu, _⟩ := paired_at p hr
      rw [ek] at hu
      cases hu
      subst e3
      refine ⟨Gr.refl _, ?_⟩
      have pu : ky = Ky.ky m.1 := pu
      rw [ev, pu, hx]
      exact Ky.of _ _⟩⟩⟩
theorem tyM {E : α → Pd} {xs : List (κ × α)} : TyP Δ (pM E xs) "dict" := fun _ _ _ _ _ ⟨_, _, _, e, h, _⟩ => by rw [e]; exact .fDict h
theorem tyOM {E : α → Pd} {xs : List (κ × α)} {v : V} {prm : Option Nat} (j : Nat) (h : Δ[j]? = some ⟨v, oM E xs, prm⟩ := by rfl) : TyP Δ (pV v) "dict" := fun K F H w hk e => by
  have e : w = v := e
  subst e
  obtain ⟨_, p, vs, _, ev, hp, _⟩ := hk.at h
  have ev : w = .ref p := ev
  rw [ev]
  exact .base (.dK hp)
/-! ### stores -/
section
variable {N : Fn γ} {rest : List Stmt}
/-- d[k] = e -/
theorem s_dput {o i e : Expr} {pos pos' : Pos} {β0 β1 β2 : Type} {T : Option γ} {k0 : β0 → Option γ} {k1 : β0 → β1 → Option γ} {k : (β0 × β1) × β2 → Option γ} {Δ0 : β0 → Δs} {Δ1 : β0 → β1 → Δs} {Δ2 : β0 → β1 → β2 → Δs} {Ee : α → Pd} {y : β0 → α} {n : β0 → β1 → β2 → κ} {xs : β0 → β1 → β2 → List (κ × α)} {v : V} {prm : Option Nat} (j : Nat) (hu : X.A.units + 64 < cLine)
    (he : PE X e (tE true F Γ Δ T k0 (fun b => Ee (y b)) Δ0)) (ho : ∀ b0, PE X o (tE true F Γ (Δ0 b0) (k0 b0) (k1 b0) (fun _ => pV v) (Δ1 b0)))
    (hi : ∀ b0 b1, PE X i (tE true F Γ (Δ1 b0 b1) (k1 b0 b1) (fun b2 => grd ((xs b0 b1 b2).length < sizeLine) (k ((b0, b1), b2))) (fun b2 => Ky.kp (n b0 b1 b2)) (Δ2 b0 b1)))
    (hj : ∀ b0 b1 b2, (Δ2 b0 b1 b2)[j]? = some ⟨v, oM Ee (xs b0 b1 b2), prm⟩)
    (hr : ∀ b : (β0 × β1) × β2, PSs X rest (tS F Γ ((Δ2 b.1.1 b.1.2 b.2).set j ⟨v, oM Ee (dput (xs b.1.1 b.1.2 b.2) (n b.1.1 b.1.2 b.2) (y b.1.1)), prm⟩) N (k b)))
    (hs : swapsWith e (some (.Subscript o i pos')) pos.line X.env = pure false := by rfl) :
    PSs X (.Assign [.Subscript o i pos'] e pos :: rest) (tS F Γ Δ N T) :=
  (pss_cons (ps_dput (by omega) (pe_ex ho) (pe_ex fun b0 => pe_ex fun b1 => hi b0 b1) he hs) (pss_ex hr)).wk fun D σ H ⟨ok, g, e, f⟩ => ⟨ok, g, e, fun b0 u H0 kb0 f0 ok0 hu => ⟨b0, ok0, g, kb0, fun b1 w H1 kb1 f1 ok1 hw => ⟨b0, b1, ok1, g, kb1, fun b2 z H2 kb2 f2 ok2 hz => by
    obtain ⟨c, km⟩ := grd_some kb2
    have hw : w = v := hw
    subst hw
    have hz := Ky.is hz
    obtain ⟨G, ⟨p, vs, eG, ev, hp, zz, pr⟩, _, turn⟩ := ok2.cell (hj b0 b1 b2)
    have hu2 : (Ee (y b0)).pr H2 u := (Ee (y b0)).mono (f1.fz.trans f2.fz) hu
    have fzm : Fzs H2 (upd H2 p (.dK (putK vs (Ky.ky (n b0 b1 b2)) u))) := Fzs.mut hp fun z => z
    have eG : G = [p] := eG
    refine ⟨p, _, ev, .inl ⟨vs, Ky.ky (n b0 b1 b2), hp, hz, by rw [← paired_len pr]; exact c, rfl⟩, ((b0, b1), b2), ?_⟩
    obtain ⟨ok3, f3⟩ := turn (upd H2 p (.dK (putK vs (Ky.ky (n b0 b1 b2)) u))) (oM Ee (dput (xs b0 b1 b2) (n b0 b1 b2) (y b0))) (fun a o na e => by
      rw [upd_ne fun q => na (by show a ∈ G; rw [eG, q]; exact List.mem_singleton.mpr rfl)]
      exact e) ⟨p, _, eG, ev, upd_same, Nat.le_trans (dput_len _ _ _) c, prM_put ((Ee _).mono fzm hu2) (prM_mono fzm pr)⟩
    exact ⟨ok3, g, km, N.mono f (((f0.fz.trans f1.fz).trans f2.fz).trans f3.fz)⟩⟩⟩⟩
/-- del d[k] -/
theorem s_ddel {o i : Expr} {pos pos' : Pos} {β1 β2 : Type} {T : Option γ} {k1 : β1 → Option γ} {k : β1 × β2 → Option γ} {Δ1 : β1 → Δs} {Δ2 : β1 → β2 → Δs} {Ee : α → Pd} {n : β1 → β2 → κ} {xs : β1 → β2 → List (κ × α)} {v : V} {prm : Option Nat} (j : Nat)
    (ho : PE X o (tE true F Γ Δ T k1 (fun _ => pV v) Δ1))
    (hi : ∀ b1, PE X i (tE true F Γ (Δ1 b1) (k1 b1) (fun b2 => grd (dhas (xs b1 b2) (n b1 b2) = true) (k (b1, b2))) (fun b2 => Ky.kp (n b1 b2)) (Δ2 b1)))
    (hj : ∀ b1 b2, (Δ2 b1 b2)[j]? = some ⟨v, oM Ee (xs b1 b2), prm⟩)
    (hr : ∀ b : β1 × β2, PSs X rest (tS F Γ ((Δ2 b.1 b.2).set j ⟨v, oM Ee (ddel (xs b.1 b.2) (n b.1 b.2)), prm⟩) N (k b))) :
    PSs X (.Delete [.Subscript o i pos'] pos :: rest) (tS F Γ Δ N T) :=
  (pss_cons (ps_ddel ho (pe_ex fun b1 => hi b1)) (pss_ex hr)).wk fun D σ H ⟨ok, g, e, f⟩ => ⟨ok, g, e, fun b1 w H1 kb1 f1 ok1 hw => ⟨b1, ok1, g, kb1, fun b2 z H2 kb2 f2 ok2 hz => by
    obtain ⟨c, km⟩ := grd_some kb2
    have hw : w = v := hw
    subst hw
    have hz := Ky.is hz
    obtain ⟨G, ⟨p, vs, eG, ev, hp, zz, pr⟩, _, turn⟩ := ok2.cell (hj b1 b2)
    have fzm : Fzs H2 (upd H2 p (.dK (dropK vs (Ky.ky (n b1 b2))))) := Fzs.mut hp fun z => z
    have eG : G = [p] := eG
    refine ⟨p, vs, Ky.ky (n b1 b2), ev, hp, hz, by rw [has_of _ pr]; exact c, (b1, b2), ?_⟩
    obtain ⟨ok3, f3⟩ := turn (upd H2 p (.dK (dropK vs (Ky.ky (n b1 b2))))) (oM Ee (ddel (xs b1 b2) (n b1 b2))) (fun a o na e => by
      rw [upd_ne fun q => na (by show a ∈ G; rw [eG, q]; exact List.mem_singleton.mpr rfl)]
      exact e) ⟨p, _, eG, ev, upd_same, Nat.le_trans (ddel_len _ _) zz, prM_del _ (prM_mono fzm pr)⟩
    exact ⟨ok3, g, km, N.mono f ((f1.fz.trans f2.fz).trans f3.fz)⟩⟩⟩
end
/-- d.clear() -/
theorem x_dclear {o : Expr} {apos cpos : Pos} {β1 : Type} {T : Option γ} {k : β1 → Option γ} {Δ1 : β1 → Δs} {Ee : α → Pd} {xs : β1 → List (κ × α)} {v : V} {prm : Option Nat} (j : Nat) (ho : PE X o (tE true F Γ Δ T k (fun _ => pV v) Δ1)) (hj : ∀ b1, (Δ1 b1)[j]? = some ⟨v, oM Ee (xs b1), prm⟩)
    (hbase : attributeBase o "clear" X.env (eval o X.env) = eval o X.env := by rfl) (hline : (apos.endLine == cpos.line) = true := by rfl) :
    PE X (.Call (.Attribute o "clear" apos) [] [] cpos) (tE true F Γ Δ T k (fun _ => pNon) fun b => (Δ1 b).set j ⟨v, oM (κ := κ) Ee [], prm⟩) :=
  (pe_dclear ho hbase hline).wk fun σ H Q ⟨ok, g, e, q⟩ => ⟨ok, g, e, fun b1 u H1 kb1 f1 ok1 hu => by
    have hu : u = v := hu
    subst hu
    obtain ⟨G, ⟨p, vs, eG, ev, hp, zz, pr⟩, _, turn⟩ := ok1.cell (hj b1)
    have eG : G = [p] := eG
    have ev : u = .ref p := ev
    have fzm : Fzs H1 (upd H1 p (.dK [])) := Fzs.mut hp fun z => z
    obtain ⟨ok3, f3⟩ := turn (upd H1 p (.dK [])) (oM (κ := κ) Ee []) (fun a o na e => by
      rw [upd_ne fun q => na (by show a ∈ G; rw [eG, q]; exact List.mem_singleton.mpr rfl)]
      exact e) ⟨p, _, eG, ev, upd_same, Nat.zero_le _, .nil⟩
    exact ⟨by rw [ev]; exact .inr (.inr (.inl ⟨rfl, .inl ⟨vs, hp⟩⟩)), p, vs, ev, rfl, hp, q b1 .non _ kb1 (f1.trans f3) ok3 rfl⟩⟩
end
end L3
end
section
set_option Elab.async false
set_option linter.all false
set_option maxRecDepth 100000
set_option maxHeartbeats 4000000
namespace L3
open PySem PySem.Spec PyProof.Rows L2
section
variable {κ α : Type} [DecidableEq κ] [DecidableEq α]
/-- two dicts have the same pairs -/
def deq (c d : List (κ × α)) : Bool := (c.length == d.length) && c.all fun p => decide (dget d p.1 = some p.2)
end
section
variable {X : Cx} {W : Bool} {F : Fm} {Γ : Gm} {Δ : Δs} {γ : Type} {κ α : Type} [DecidableEq κ] [Ky κ] [DecidableEq α]
theorem deq_hits {E : α → Pd} (d : Dt E) (hd : d.dep < 60) {A : Around} {pins : List (Addr × Obj)} {σ : SS} {H : Hp} {s : Shared} (I : Inv X pins σ H s) (hu : A.in1.units + 64 < cLine) {ys : List (κ × α)} {ls : List (Key × V)} {vb : List (Key × Value)} (py : Paired (PrM E H) ys ls) (rb : KV ls vb) :
    ∀ {xs : List (κ × α)} {ks : List (Key × V)} {va : List (Key × Value)}, Paired (PrM E H) xs ks → KV ks va → PySem.W.KeqHits A.in1 s vb va (xs.all fun p => decide (dget ys p.1 = some p.2))
  | [], [], [], .nil, .nil => .nil
  | x :: xs, k :: ks, (key, v) :: va, .cons r t, .cons q u => by
    have ih := deq_hits d hd I hu py rb t u
    have ek : k.1 = key := q.1
    rw [List.all_cons]
    have rr : RelO (valV ls k.1) (valueAt vb k.1) := rb.val k.1
    rw [r.1] at rr
    rcases prM_get x.1 py with ⟨e0, e1⟩ | ⟨y, w, e0, e1, hw⟩
    · rw [e0, decide_eq_false (by simp), Bool.false_and]
      rw [e1] at rr
      refine .miss ?_
      rw [← ek, r.1]
      cases hv : valueAt vb (Ky.ky x.1) with
      | none => rfl
      | some z => rw [hv] at rr; exact rr.elim
    · rw [e1] at rr
      obtain ⟨z, hz, rz⟩ := rr.some_of
      have key_eq : valueAt vb key = some z := by rw [← ek, r.1]; exact hz
      obtain ⟨as, r1⟩ := Dp.reads I (d.toD x.2) k.2 v (d.dp r.2) q.2
      obtain ⟨bs, r2⟩ := Dp.reads I (d.toD y) w z (d.dp hw) rz
      have sh : ∀ a : α, SeqAt.shaped (d.toD a) = true := fun a => by
        show ((d.toD a).canLay0 && decide ((d.toD a).depth ≤ 64)) = true
        rw [d.can, decide_eq_true (by have := d.deep a; omega)]; rfl
      have eq := PySem.W.keq_at (A := A) r1 r2 (sh _) (sh _) hu
      rw [d.eq] at eq
      have e2 : decide (dget ys x.1 = some x.2) = decide (x.2 = y) := by
        rw [e0]
        by_cases h : x.2 = y
        · simp [h]
        · have h2 : ¬ y = x.2 := fun z => h z.symm
          simp [h, h2]
      rw [e2]
      exact .hit key_eq eq ih
/-- d == e -/
def rDeq (d : Bool → Bool) : R2 := fun x y H Q => ∃ (κ α : Type) (_ : DecidableEq κ) (_ : Ky κ) (_ : DecidableEq α) (E : α → Pd) (t : Dt E) (_ : t.dep < 60) (xs ys : List (κ × α)), RM E xs H x ∧ RM E ys H y ∧ Q (.bl (d (deq xs ys))) H
theorem op_deq (hu : X.A.units + 66 < cLine) : OpR X (compareOp .Eq) (rDeq id) := by
  intro pins s σ H x y v u Q I rx ry h
  obtain ⟨κ, α, i1, i2, i3, E, t, ht, xs, ys, ⟨a, ks, rfl, ra, _, pa⟩, ⟨b, ls, rfl, rb, _, pb⟩, q⟩ := h
  obtain rfl : v = Value.ref a := rx
  obtain rfl : u = Value.ref b := ry
  obtain ⟨_, ya, va, rva, da⟩ := dk_rd I.hok ra
  obtain ⟨_, yb, vb, rvb, db⟩ := dk_rd I.hok rb
  refine PySem.W.keq_eq (knd := mixKind X.prog X.w) ya yb da db (by omega) (fun _ => deq_hits t ht I (by show X.A.units + 1 + 64 < cLine; omega) pb rvb pa rva) ⟨.bl (deq xs ys), H, I, ?_, q⟩
  show Value.bool _ = Value.bool _
  unfold deq
  rw [← rva.length, ← rvb.length, ← paired_len pa, ← paired_len pb]
theorem op_dne (hu : X.A.units + 66 < cLine) : OpR X (compareOp .NotEq) (rDeq (fun x => !x)) := by
  intro pins s σ H x y v u Q I rx ry h
  obtain ⟨κ, α, i1, i2, i3, E, t, ht, xs, ys, ⟨a, ks, rfl, ra, _, pa⟩, ⟨b, ls, rfl, rb, _, pb⟩, q⟩ := h
  obtain rfl : v = Value.ref a := rx
  obtain rfl : u = Value.ref b := ry
  obtain ⟨_, ya, va, rva, da⟩ := dk_rd I.hok ra
  obtain ⟨_, yb, vb, rvb, db⟩ := dk_rd I.hok rb
  refine PySem.W.keq_ne (knd := mixKind X.prog X.w) ya yb da db (by omega) (fun _ => deq_hits t ht I (by show X.A.units + 1 + 64 < cLine; omega) pb rvb pa rva) ⟨.bl (!deq xs ys), H, I, ?_, q⟩
  show Value.bool _ = Value.bool _
  unfold deq
  rw [← rva.length, ← rvb.length, ← paired_len pa, ← paired_len pb]
theorem room66 {k : Nat} {A : Around} (r : Room k A) : A.units + 66 < cLine := by have := r.un; omega
section
variable {a b : Expr} {pos : Pos} {β1 β2 : Type} {T : Option γ} {k1 : β1 → Option γ} {k : β1 × β2 → Option γ} {Δ1 : β1 → Δs} {Δ2 : β1 → β2 → Δs} {Ee : α → Pd} {E1 : β1 → Pd} {E2 : β1 → β2 → Pd} {xs ys : β1 → β2 → List (κ × α)}
theorem x_eqM (hu : X.A.units + 66 < cLine) (d : Dt Ee) (ha : PE X a (tE W F Γ Δ T k1 E1 Δ1)) (hb : ∀ b1, PE X b (tE W F Γ (Δ1 b1) (k1 b1) (fun b2 => k (b1, b2)) (E2 b1) (Δ2 b1))) (r1 : ∀ b1 b2, RdM (Δ2 b1 b2) (E1 b1) Ee (xs b1 b2)) (r2 : ∀ b1 b2, RdM (Δ2 b1 b2) (E2 b1 b2) Ee (ys b1 b2)) (hd : d.dep < 60 := by decide) :
    PE X (.Compare a [.Eq] [b] pos) (tE W F Γ Δ T k (fun b => pBl (deq (xs b.1 b.2) (ys b.1 b.2))) fun b => Δ2 b.1 b.2) := x2t (b_cmp (op_deq hu) (nomark _)) ha hb fun b1 b2 σ v w H Q ok hv hw q => ⟨κ, α, _, _, _, Ee, d, hd, _, _, r1 b1 b2 F H v ok.hk hv, r2 b1 b2 F H w ok.hk hw, q _ rfl⟩
theorem x_neM (hu : X.A.units + 66 < cLine) (d : Dt Ee) (ha : PE X a (tE W F Γ Δ T k1 E1 Δ1)) (hb : ∀ b1, PE X b (tE W F Γ (Δ1 b1) (k1 b1) (fun b2 => k (b1, b2)) (E2 b1) (Δ2 b1))) (r1 : ∀ b1 b2, RdM (Δ2 b1 b2) (E1 b1) Ee (xs b1 b2)) (r2 : ∀ b1 b2, RdM (Δ2 b1 b2) (E2 b1 b2) Ee (ys b1 b2)) (hd : d.dep < 60 := by decide) :
    PE X (.Compare a [.NotEq] [b] pos) (tE W F Γ Δ T k (fun b => pBl (!deq (xs b.1 b.2) (ys b.1 b.2))) fun b => Δ2 b.1 b.2) := x2t (b_cmp (op_dne hu) (nomark _)) ha hb fun b1 b2 σ v w H Q ok hv hw q => ⟨κ, α, _, _, _, Ee, d, hd, _, _, r1 b1 b2 F H v ok.hk hv, r2 b1 b2 F H w ok.hk hw, q _ rfl⟩
theorem t_eqM (hu : X.A.units + 66 < cLine) (d : Dt Ee) (ha : PE X a (tE W F Γ Δ T k1 E1 Δ1)) (hb : ∀ b1, PE X b (tE W F Γ (Δ1 b1) (k1 b1) (fun b2 => k (b1, b2)) (E2 b1) (Δ2 b1))) (r1 : ∀ b1 b2, RdM (Δ2 b1 b2) (E1 b1) Ee (xs b1 b2)) (r2 : ∀ b1 b2, RdM (Δ2 b1 b2) (E2 b1 b2) Ee (ys b1 b2)) (hd : d.dep < 60 := by decide) :
    PT X (.Compare a [.Eq] [b] pos) (tTs W F Γ Δ T k (fun b => deq (xs b.1 b.2) (ys b.1 b.2)) fun b => Δ2 b.1 b.2) := t2t (bt_cmp (op_deq hu) (nomark _)) ha hb fun b1 b2 σ v w H Q ok hv hw q => ⟨κ, α, _, _, _, Ee, d, hd, _, _, r1 b1 b2 F H v ok.hk hv, r2 b1 b2 F H w ok.hk hw, q _ rfl⟩
theorem t_neM (hu : X.A.units + 66 < cLine) (d : Dt Ee) (ha : PE X a (tE W F Γ Δ T k1 E1 Δ1)) (hb : ∀ b1, PE X b (tE W F Γ (Δ1 b1) (k1 b1) (fun b2 => k (b1, b2)) (E2 b1) (Δ2 b1))) (r1 : ∀ b1 b2, RdM (Δ2 b1 b2) (E1 b1) Ee (xs b1 b2)) (r2 : ∀ b1 b2, RdM (Δ2 b1 b2) (E2 b1 b2) Ee (ys b1 b2)) (hd : d.dep < 60 := by decide) :
    PT X (.Compare a [.NotEq] [b] pos) (tTs W F Γ Δ T k (fun b => !deq (xs b.1 b.2) (ys b.1 b.2)) fun b => Δ2 b.1 b.2) := t2t (bt_cmp (op_dne hu) (nomark _)) ha hb fun b1 b2 σ v w H Q ok hv hw q => ⟨κ, α, _, _, _, Ee, d, hd, _, _, r1 b1 b2 F H v ok.hk hv, r2 b1 b2 F H w ok.hk hw, q _ rfl⟩
end
end
section
variable {X : Cx} {W : Bool} {F : Fm} {Γ : Gm} {Δ : Δs} {γ : Type}
/-! ### a value that is known not to be None -/
theorem x_some {a : Expr} {β α : Type} {T : Option γ} {k : β × α → Option γ} {Ee : α → Pd} {x : β → Option α} {Δ1 : β → Δs} (ha : PE X a (tE W F Γ Δ T (fun b => (x b).bind fun y => k (b, y)) (fun b => pOp Ee (x b)) Δ1)) : PE X a (tE W F Γ Δ T k (fun b => Ee b.2) fun b => Δ1 b.1) :=
  ha.wk fun σ H Q ⟨ok, g, e, q⟩ => ⟨ok, g, e, fun b v H' kb f ok' hv => by
    obtain ⟨y, ey, ky⟩ := bind_some kb
    have hv : (pOp Ee (x b)).pr H' v := hv
    rw [ey] at hv
    exact q (b, y) v H' ky f ok' hv⟩
/-! ### max(i, j), min(i, j), str(i) -/
section
variable {a b : Expr} {p pos : Pos} {β1 β2 : Type} {T : Option γ} {k1 : β1 → Option γ} {k : β1 × β2 → Option γ} {Δ1 : β1 → Δs} {Δ2 : β1 → β2 → Δs} {i : β1 → Int} {j : β1 → β2 → Int}
theorem x_max2 (hm : X.mg "max" = none) (ha : PE X a (tE W F Γ Δ T k1 (fun b => pInt (i b)) Δ1)) (hb : ∀ b1, PE X b (tE W F Γ (Δ1 b1) (k1 b1) (fun b2 => k (b1, b2)) (fun b => pInt (j b1 b)) (Δ2 b1))) (hg : Gl X "max" := by rfl) (hs : starEach [a, b] X.env = (false, eval a X.env) :: starEach [b] X.env := by rfl) (hs2 : starEach [b] X.env = (false, eval b X.env) :: starEach [] X.env := by rfl) (hpl : (backTo pos (starEach [b] X.env)).any (·.1) = false := by rfl) (hc : X.calm = true := by rfl) :
    PE X (.Call (.Name "max" p) [a, b] [] pos) (tE W F Γ Δ T k (fun b => pInt (max (i b.1) (j b.1 b.2))) fun b => Δ2 b.1 b.2) :=
  x2t (b_callB (call_max2 hc) hg hm (by decide +kernel) (by decide) (by decide) hs hs2 hpl) ha hb fun b1 b2 σ v w H Q ok hv hw q => ⟨i b1, j b1 b2, by rw [show v = .int (i b1) from hv, show w = .int (j b1 b2) from hw], q _ (by
    show V.int _ = V.int _
    congr 1
    dsimp only
    by_cases h : j b1 b2 > i b1
    · rw [if_pos h, Int.max_def, if_pos (by omega)]
    · rw [if_neg h, Int.max_def]; split <;> omega)⟩
theorem x_min2 (hm : X.mg "min" = none) (ha : PE X a (tE W F Γ Δ T k1 (fun b => pInt (i b)) Δ1)) (hb : ∀ b1, PE X b (tE W F Γ (Δ1 b1) (k1 b1) (fun b2 => k (b1, b2)) (fun b => pInt (j b1 b)) (Δ2 b1))) (hg : Gl X "min" := by rfl) (hs : starEach [a, b] X.env = (false, eval a X.env) :: starEach [b] X.env := by rfl) (hs2 : starEach [b] X.env = (false, eval b X.env) :: starEach [] X.env := by rfl) (hpl : (backTo pos (starEach [b] X.env)).any (·.1) = false := by rfl) (hc : X.calm = true := by rfl) :
    PE X (.Call (.Name "min" p) [a, b] [] pos) (tE W F Γ Δ T k (fun b => pInt (min (i b.1) (j b.1 b.2))) fun b => Δ2 b.1 b.2) :=
  x2t (b_callB (call_min2 hc) hg hm (by decide +kernel) (by decide) (by decide) hs hs2 hpl) ha hb fun b1 b2 σ v w H Q ok hv hw q => ⟨i b1, j b1 b2, by rw [show v = .int (i b1) from hv, show w = .int (j b1 b2) from hw], q _ (by
    show V.int _ = V.int _
    congr 1
    dsimp only
    by_cases h : j b1 b2 < i b1
    · rw [if_pos h, Int.min_def]; split <;> omega
    · rw [if_neg h, Int.min_def, if_pos (by omega)])⟩
end
section
variable {a b : Expr} {p pos : Pos} {β β1 β2 : Type} {T : Option γ} {k1 : β1 → Option γ} {Δ1 : β1 → Δs} {Δ0 : β → Δs} {Δ2 : β1 → β2 → Δs}
theorem x_strI {k : β → Option γ} {i : β → Int} (hm : X.mg "str" = none) (ha : PE X a (tE W F Γ Δ T (fun b => grd ((i b).natAbs.log2 < 1920) (k b)) (fun b => pInt (i b)) Δ0)) (hg : Gl X "str" := by rfl) (hs : starEach [a] X.env = (false, eval a X.env) :: starEach [] X.env := by rfl) : PE X (.Call (.Name "str" p) [a] [] pos) (tE W F Γ Δ T k (fun b => pStr (Str.ofString (toString (i b)))) Δ0) :=
  x1g (u_callTy call_str_int hg hm (by decide +kernel) (by decide) (by decide) hs) ha fun b σ v H Q ok c hv q => ⟨i b, by rw [show v = .int (i b) from hv], c, q _ rfl⟩
/-- s[i] -/
theorem x_ixC {k : (β1 × β2) × Nat → Option γ} {z : β1 → Str} {j : β1 → β2 → Int} (ha : PE X a (tE W F Γ Δ T k1 (fun b => pStr (z b)) Δ1)) (hb : ∀ b1, PE X b (tE W F Γ (Δ1 b1) (k1 b1) (fun b2 => grd ((z b1).length ≤ sizeLine) ((atI (z b1).cps.toList (j b1 b2)).bind fun x => k ((b1, b2), x))) (fun b => pInt (j b1 b)) (Δ2 b1))) (hs : PlainIx b := by exact fun _ _ => rfl) :
    PE X (.Subscript a b pos) (tE W F Γ Δ T k (fun b => pStr ⟨#[b.2]⟩) fun b => Δ2 b.1.1 b.1.2) :=
  x2_core (b_ix ix_str hs) ha hb fun σ H Q ⟨ok, g, e, q⟩ => ⟨ok, g, e, fun b1 b2 v w H2 kb f ok2 hv hw => by
    obtain ⟨c, kb⟩ := grd_some kb
    obtain ⟨x, ex, kx⟩ := bind_some kb
    exact ⟨z b1, j b1 b2, x, hv, hw, c, ex, q ((b1, b2), x) _ H2 kx f ok2 rfl⟩⟩
end
/-! ### xs.index(x), xs.count(i) -/
def idx? {α : Type} [DecidableEq α] (x : α) : List α → Option Nat
  | [] => none
  | y :: ys => if y = x then some 0 else (idx? x ys).map (· + 1)
theorem idx_spec {α : Type} [DecidableEq α] {x : α} : ∀ {xs : List α} {j : Nat}, idx? x xs = some j → xs[j]? = some x ∧ ∀ m y, m < j → xs[m]? = some y → y ≠ x
  | [], _, h => by cases h
  | y :: ys, j, h => by
    unfold idx? at h
    by_cases e : y = x
    · rw [if_pos e] at h; cases h
      exact ⟨by rw [e]; rfl, fun m _ hm => absurd hm (Nat.not_lt_zero m)⟩
    · rw [if_neg e] at h
      cases hi : idx? x ys with
      | none => rw [hi] at h; cases h
      | some i =>
        rw [hi] at h
        have h : i + 1 = j := Option.some.inj h
        subst h
        obtain ⟨h1, h2⟩ := idx_spec hi
        refine ⟨by simpa using h1, fun m z hm hz => ?_⟩
        cases m with
        | zero => have hz : y = z := by simpa using hz
                  rw [← hz]; exact e
        | succ m => exact h2 m z (by omega) (by simpa using hz)
section
variable {o e : Expr} {apos cpos : Pos} {β1 β2 α : Type} {T : Option γ} {k1 : β1 → Option γ} {Δ1 : β1 → Δs} {Δ2 : β1 → β2 → Δs} {E1 : β1 → Pd} {Ee : α → Pd} {y : β1 → β2 → α}
theorem x_index [DecidableEq α] {k : (β1 × β2) × Nat → Option γ} {xs0 : β1 → List α} {xs : β1 → β2 → List α} (fl : Flat Ee) (ho : PE X o (tE W F Γ Δ T k1 E1 Δ1)) (he : ∀ b1, PE X e (tE W F Γ (Δ1 b1) (k1 b1) (fun b2 => (idx? (y b1 b2) (xs b1 b2)).bind fun n => k ((b1, b2), n)) (fun b2 => Ee (y b1 b2)) (Δ2 b1))) (rd0 : ∀ b1, RdL (Δ1 b1) (E1 b1) Ee (xs0 b1)) (rd : ∀ b1 b2, RdL (Δ2 b1 b2) (E1 b1) Ee (xs b1 b2))
    (hbase : attributeBase o "index" X.env (eval o X.env) = eval o X.env := by rfl) (hline : (apos.endLine == cpos.line) = true := by rfl) (hs : starEach [e] X.env = (false, eval e X.env) :: starEach [] X.env := by rfl)
    (hfew : ((backTo cpos (starEach [e] X.env)).all (fun x => !x.1) && (backToKw cpos (keywordEach [] X.env)).all (fun x => x.1.isSome) && decide ([e].length + ([] : List Keyword).length + (if ([] : List Keyword).isEmpty then 0 else 1) < 30)) = true := by rfl) :
    PE X (.Call (.Attribute o "index" apos) [e] [] cpos) (tE W F Γ Δ T k (fun b => pInt (b.2 : Int)) fun b => Δ2 b.1.1 b.1.2) :=
  (pe_bm PySem.F.plainAttrs_list PySem.F.slot_list_index PySem.F.type_list_index mt_index ho (pa_cons (pe_ex he) pa_nil hs) hbase hfew hline hs).wk fun σ H Q ⟨ok, g, e, q⟩ => ⟨ok, g, e, fun b1 u H1 kb1 f1 ok1 hu => by
    obtain ⟨p0, vs0, ev0, sq0, _, _⟩ := (rd0 b1 F H1 u ok1.hk hu).sq (K := X.K)
    refine ⟨by rw [ev0]; exact .inl ⟨rfl, vs0, sq0⟩, b1, ok1, g, kb1, fun b2 w H2 kb2 f2 ok2 hw => ?_⟩
    obtain ⟨n, en, kn⟩ := bind_some kb2
    obtain ⟨p, vs, ev, sq, _, pr⟩ := (rd b1 b2 F H2 u ok2.hk ((E1 b1).mono f2.fz hu)).sq (K := X.K)
    have e1 := flat_vals fl pr
    subst e1
    have e2 := fl.eq hw
    subst e2
    obtain ⟨i1, i2⟩ := idx_spec en
    refine ⟨p, _, fl.mp (y b1 b2), n, fl.mp (y b1 b2), ev, rfl, sq, fl.fl _, flat_all fl _, by rw [List.getElem?_map, i1]; rfl, by rw [fl.one]; simp, fun m z' hm hz => ?_, q ((b1, b2), n) _ H2 kn (f1.trans f2) ok2 rfl⟩
    rw [List.getElem?_map] at hz
    cases hx : (xs b1 b2)[m]? with
    | none => rw [hx] at hz; cases hz
    | some x =>
      rw [hx] at hz
      have hz : fl.mp x = z' := by simpa using hz
      rw [← hz, fl.one, decide_eq_false (i2 m x hm hx)]⟩
theorem x_countI {k : β1 × β2 → Option γ} {xs0 : β1 → List Int} {xs : β1 → β2 → List Int} {y : β1 → β2 → Int} (ho : PE X o (tE W F Γ Δ T k1 E1 Δ1)) (he : ∀ b1, PE X e (tE W F Γ (Δ1 b1) (k1 b1) (fun b2 => k (b1, b2)) (fun b2 => pInt (y b1 b2)) (Δ2 b1))) (rd0 : ∀ b1, RdL (Δ1 b1) (E1 b1) pInt (xs0 b1)) (rd : ∀ b1 b2, RdL (Δ2 b1 b2) (E1 b1) pInt (xs b1 b2))
    (hbase : attributeBase o "count" X.env (eval o X.env) = eval o X.env := by rfl) (hline : (apos.endLine == cpos.line) = true := by rfl) (hs : starEach [e] X.env = (false, eval e X.env) :: starEach [] X.env := by rfl)
    (hfew : ((backTo cpos (starEach [e] X.env)).all (fun x => !x.1) && (backToKw cpos (keywordEach [] X.env)).all (fun x => x.1.isSome) && decide ([e].length + ([] : List Keyword).length + (if ([] : List Keyword).isEmpty then 0 else 1) < 30)) = true := by rfl) :
    PE X (.Call (.Attribute o "count" apos) [e] [] cpos) (tE W F Γ Δ T k (fun b => pInt (((xs b.1 b.2).count (y b.1 b.2) : Nat) : Int)) fun b => Δ2 b.1 b.2) :=
  (pe_bm PySem.F.plainAttrs_list PySem.F.slot_list_count PySem.F.type_list_count mt_lcount ho (pa_cons (pe_ex he) pa_nil hs) hbase hfew hline hs).wk fun σ H Q ⟨ok, g, e, q⟩ => ⟨ok, g, e, fun b1 u H1 kb1 f1 ok1 hu => by
    obtain ⟨p0, vs0, ev0, sq0, _, _⟩ := (rd0 b1 F H1 u ok1.hk hu).sq (K := X.K)
    refine ⟨by rw [ev0]; exact .inl ⟨rfl, vs0, sq0⟩, b1, ok1, g, kb1, fun b2 w H2 kb2 f2 ok2 hw => ?_⟩
    obtain ⟨p, vs, ev, sq, _, pr⟩ := (rd b1 b2 F H2 u ok2.hk ((E1 b1).mono f2.fz hu)).sq (K := X.K)
    have e1 := paired_ints pr
    subst e1
    exact ⟨p, xs b1 b2, y b1 b2, ev, by rw [show w = .int (y b1 b2) from hw], sq, q (b1, b2) _ H2 kb2 (f1.trans f2) ok2 rfl⟩⟩
end
theorem feOp0 {α : Type} {E : α → Pd} (fe : FlatE E) : ∀ (x : Option α) H H' v, (pOp E x).pr H v → (pOp E x).pr H' v
  | none, _, _, _, h => h
  | some y, H, H', v, h => fe y H H' v h
theorem feOp {β α : Type} {E : α → Pd} {x : β → Option α} (fe : FlatE E) : FlatE fun b => pOp E (x b) := fun b H H' v h => feOp0 fe (x b) H H' v h
theorem feI : FlatE pInt := fun _ _ _ _ h => h
theorem feS : FlatE pStr := fun _ _ _ _ h => h
/-! ### what is made under a lock -/
theorem foM {β κ α : Type} [DecidableEq κ] [Ky κ] {E : α → Pd} {x : β → List (κ × α)} (fe : FlatE E) : FlatO fun b => oM E (x b) := fun b G H H' v ⟨p, vs, eg, ev, h, z, q⟩ k => ⟨p, vs, eg, ev, by rw [k p (by rw [eg]; exact List.mem_singleton.mpr rfl)]; exact h, z, paired_mono (fun x u w => ⟨w.1, fe x.2 H H' u.2 w.2⟩) q⟩
end
end L3
end
section
set_option Elab.async false
set_option linter.all false
set_option maxRecDepth 100000
set_option maxHeartbeats 4000000
namespace L3
open PySem PySem.Spec PyProof.Rows L2
section
variable {X : Cx} {W : Bool} {F : Fm} {Γ : Gm} {Δ : Δs} {γ : Type}
/-- the mirror said otherwise -/
theorem t_T {β : Type} {e : Expr} {T T' : Option γ} {k : β → Option γ} {c : β → Bool} {Δ' : β → Δs} (h : PT X e (tTs W F Γ Δ T' k c Δ')) (hT : T = T') : PT X e (tTs W F Γ Δ T k c Δ') := by rw [hT]; exact h
end
end L3
end
section
set_option Elab.async false
set_option linter.all false
set_option maxRecDepth 100000
set_option maxHeartbeats 4000000
namespace L3
open PySem PySem.Spec PyProof.Rows L2
/-! ### values of any kind -/
inductive Val where
  | non
  | bl (b : Bool)
  | int (i : Int)
  | str (x : Str)
  | lst (xs : List Val)
  | tup (xs : List Val)
  | dct (kvs : List (Key × Val))
  | ins (c : Str) (fs : List (Str × Val))
abbrev Mg := Str → Option Value
mutual
inductive VRep (mg : Mg) (H : Hp) : Val → V → Prop
  | non : VRep mg H .non .non
  | bl (b : Bool) : VRep mg H (.bl b) (.bl b)
  | int (i : Int) : VRep mg H (.int i) (.int i)
  | str (x : Str) : VRep mg H (.str x) (.str x)
  | lst {a : Addr} {o : Obj} {vs : List V} {xs : List Val} : H a = some (.frz o (.lst vs)) → xs.length ≤ sizeLine → VReps mg H xs vs → VRep mg H (.lst xs) (.ref a)
  | tup {a : Addr} {vs : List V} {xs : List Val} : H a = some (.tup vs) → xs.length ≤ sizeLine → VReps mg H xs vs → VRep mg H (.tup xs) (.ref a)
  | dct {a : Addr} {o : Obj} {ks : List (Key × V)} {kvs : List (Key × Val)} : H a = some (.frz o (.dK ks)) → kvs.length ≤ sizeLine → VRepD mg H kvs ks → VRep mg H (.dct kvs) (.ref a)
  | ins {a : Addr} {o : Obj} {C dx : Addr} {vs : List (Str × V)} {c : Str} {fs : List (Str × Val)} : H a = some (.frz o (.ins C dx vs)) → mg c = some (.ref C) → VRepF mg H fs vs → VRep mg H (.ins c fs) (.ref a)
inductive VReps (mg : Mg) (H : Hp) : List Val → List V → Prop
  | nil : VReps mg H [] []
  | cons {x : Val} {v : V} {xs : List Val} {vs : List V} : VRep mg H x v → VReps mg H xs vs → VReps mg H (x :: xs) (v :: vs)
inductive VRepD (mg : Mg) (H : Hp) : List (Key × Val) → List (Key × V) → Prop
  | nil : VRepD mg H [] []
  | cons {k : Key} {x : Val} {v : V} {xs : List (Key × Val)} {vs : List (Key × V)} : VRep mg H x v → VRepD mg H xs vs → VRepD mg H ((k, x) :: xs) ((k, v) :: vs)
inductive VRepF (mg : Mg) (H : Hp) : List (Str × Val) → List (Str × V) → Prop
  | nil : VRepF mg H [] []
  | cons {k : Str} {x : Val} {v : V} {xs : List (Str × Val)} {vs : List (Str × V)} : VRep mg H x v → VRepF mg H xs vs → VRepF mg H ((k, x) :: xs) ((k, v) :: vs)
end
mutual
theorem VRep.mono {mg : Mg} {H H' : Hp} (f : Fzs H H') : ∀ {x : Val} {v : V}, VRep mg H x v → VRep mg H' x v
  | _, _, .non => .non
  | _, _, .bl b => .bl b
  | _, _, .int i => .int i
  | _, _, .str x => .str x
  | _, _, .lst h z r => .lst (f _ _ trivial h) z (VReps.mono f r)
  | _, _, .tup h z r => .tup (f _ _ trivial h) z (VReps.mono f r)
  | _, _, .dct h z r => .dct (f _ _ trivial h) z (VRepD.mono f r)
  | _, _, .ins h m r => .ins (f _ _ trivial h) m (VRepF.mono f r)
theorem VReps.mono {mg : Mg} {H H' : Hp} (f : Fzs H H') : ∀ {x : List Val} {v : List V}, VReps mg H x v → VReps mg H' x v
  | _, _, .nil => .nil
  | _, _, .cons a b => .cons (VRep.mono f a) (VReps.mono f b)
theorem VRepD.mono {mg : Mg} {H H' : Hp} (f : Fzs H H') : ∀ {x : List (Key × Val)} {v : List (Key × V)}, VRepD mg H x v → VRepD mg H' x v
  | _, _, .nil => .nil
  | _, _, .cons a b => .cons (VRep.mono f a) (VRepD.mono f b)
theorem VRepF.mono {mg : Mg} {H H' : Hp} (f : Fzs H H') : ∀ {x : List (Str × Val)} {v : List (Str × V)}, VRepF mg H x v → VRepF mg H' x v
  | _, _, .nil => .nil
  | _, _, .cons a b => .cons (VRep.mono f a) (VRepF.mono f b)
end
def pU (mg : Mg) (x : Val) : Pd := ⟨fun H v => VRep mg H x v, fun f h => VRep.mono f h⟩
/-! ### things of one's own, of any kind: what is fz is locked for good -/
inductive OTr where
  | fz (v : Val)
  | lst (xs : List OTr)
  | tup (xs : List OTr)
  | dct (kvs : List (Key × OTr))
  | ins (c : Str) (fs : List (Str × OTr))
mutual
def er : OTr → Val
  | .fz v => v
  | .lst xs => .lst (ers xs)
  | .tup xs => .tup (ers xs)
  | .dct kvs => .dct (erd kvs)
  | .ins c fs => .ins c (erf fs)
def ers : List OTr → List Val
  | [] => []
  | x :: xs => er x :: ers xs
def erd : List (Key × OTr) → List (Key × Val)
  | [] => []
  | (k, x) :: xs => (k, er x) :: erd xs
def erf : List (Str × OTr) → List (Str × Val)
  | [] => []
  | (k, x) :: xs => (k, er x) :: erf xs
end
theorem ers_len : ∀ xs : List OTr, (ers xs).length = xs.length
  | [] => by unfold ers; rfl
  | x :: xs => by unfold ers; rw [List.length_cons, ers_len xs, List.length_cons]
theorem erd_len : ∀ xs : List (Key × OTr), (erd xs).length = xs.length
  | [] => by unfold erd; rfl
  | (k, x) :: xs => by unfold erd; rw [List.length_cons, erd_len xs, List.length_cons]
mutual
inductive ORep (mg : Mg) (H : Hp) : OTr → V → List Addr → Prop
  | fz {v : Val} {x : V} : VRep mg H v x → ORep mg H (.fz v) x []
  | lst {a : Addr} {vs : List V} {xs : List OTr} {G : List Addr} : H a = some (.lst vs) → xs.length ≤ sizeLine → OReps mg H xs vs G → ORep mg H (.lst xs) (.ref a) (a :: G)
  | tup {a : Addr} {vs : List V} {xs : List OTr} {G : List Addr} : H a = some (.tup vs) → xs.length ≤ sizeLine → OReps mg H xs vs G → ORep mg H (.tup xs) (.ref a) G
  | dct {a : Addr} {ks : List (Key × V)} {kvs : List (Key × OTr)} {G : List Addr} : H a = some (.dK ks) → kvs.length ≤ sizeLine → ORepD mg H kvs ks G → ORep mg H (.dct kvs) (.ref a) (a :: G)
  | ins {a : Addr} {C dx : Addr} {vs : List (Str × V)} {c : Str} {fs : List (Str × OTr)} {G : List Addr} : H a = some (.ins C dx vs) → mg c = some (.ref C) → ORepF mg H fs vs G → ORep mg H (.ins c fs) (.ref a) (a :: G)
inductive OReps (mg : Mg) (H : Hp) : List OTr → List V → List Addr → Prop
  | nil : OReps mg H [] [] []
  | cons {x : OTr} {v : V} {xs : List OTr} {vs : List V} {G1 G2 : List Addr} : ORep mg H x v G1 → OReps mg H xs vs G2 → OReps mg H (x :: xs) (v :: vs) (G1 ++ G2)
inductive ORepD (mg : Mg) (H : Hp) : List (Key × OTr) → List (Key × V) → List Addr → Prop
  | nil : ORepD mg H [] [] []
  | cons {k : Key} {x : OTr} {v : V} {xs : List (Key × OTr)} {vs : List (Key × V)} {G1 G2 : List Addr} : ORep mg H x v G1 → ORepD mg H xs vs G2 → ORepD mg H ((k, x) :: xs) ((k, v) :: vs) (G1 ++ G2)
inductive ORepF (mg : Mg) (H : Hp) : List (Str × OTr) → List (Str × V) → List Addr → Prop
  | nil : ORepF mg H [] [] []
  | cons {k : Str} {x : OTr} {v : V} {xs : List (Str × OTr)} {vs : List (Str × V)} {G1 G2 : List Addr} : ORep mg H x v G1 → ORepF mg H xs vs G2 → ORepF mg H ((k, x) :: xs) ((k, v) :: vs) (G1 ++ G2)
end
abbrev Kp (G : List Addr) (H H' : Hp) : Prop := ∀ a ∈ G, ∀ o, H a = some o → H' a = some o
theorem Kp.l {G1 G2 : List Addr} {H H' : Hp} (k : Kp (G1 ++ G2) H H') : Kp G1 H H' := fun a ha => k a (List.mem_append_left _ ha)
theorem Kp.r {G1 G2 : List Addr} {H H' : Hp} (k : Kp (G1 ++ G2) H H') : Kp G2 H H' := fun a ha => k a (List.mem_append_right _ ha)
theorem Kp.t {a : Addr} {G : List Addr} {H H' : Hp} (k : Kp (a :: G) H H') : Kp G H H' := fun a ha => k a (List.mem_cons_of_mem _ ha)
mutual
theorem ORep.frame {mg : Mg} {H H' : Hp} (f : Fzs H H') : ∀ {x : OTr} {v : V} {G : List Addr}, ORep mg H x v G → Kp G H H' → ORep mg H' x v G
  | _, _, _, .fz h, _ => .fz (h.mono f)
  | _, _, _, .lst h z r, k => .lst (k _ List.mem_cons_self _ h) z (OReps.frame f r k.t)
  | _, _, _, .tup h z r, k => .tup (f _ _ trivial h) z (OReps.frame f r k)
  | _, _, _, .dct h z r, k => .dct (k _ List.mem_cons_self _ h) z (ORepD.frame f r k.t)
  | _, _, _, .ins h m r, k => .ins (k _ List.mem_cons_self _ h) m (ORepF.frame f r k.t)
theorem OReps.frame {mg : Mg} {H H' : Hp} (f : Fzs H H') : ∀ {x : List OTr} {v : List V} {G : List Addr}, OReps mg H x v G → Kp G H H' → OReps mg H' x v G
  | _, _, _, .nil, _ => .nil
  | _, _, _, .cons a b, k => .cons (ORep.frame f a k.l) (OReps.frame f b k.r)
theorem ORepD.frame {mg : Mg} {H H' : Hp} (f : Fzs H H') : ∀ {x : List (Key × OTr)} {v : List (Key × V)} {G : List Addr}, ORepD mg H x v G → Kp G H H' → ORepD mg H' x v G
  | _, _, _, .nil, _ => .nil
  | _, _, _, .cons a b, k => .cons (ORep.frame f a k.l) (ORepD.frame f b k.r)
theorem ORepF.frame {mg : Mg} {H H' : Hp} (f : Fzs H H') : ∀ {x : List (Str × OTr)} {v : List (Str × V)} {G : List Addr}, ORepF mg H x v G → Kp G H H' → ORepF mg H' x v G
  | _, _, _, .nil, _ => .nil
  | _, _, _, .cons a b, k => .cons (ORep.frame f a k.l) (ORepF.frame f b k.r)
end
abbrev Muts (G : List Addr) (H : Hp) : Prop := ∀ a ∈ G, ∃ o, H a = some o ∧ Mut (some o)
theorem Muts.cons {a : Addr} {G : List Addr} {H : Hp} {o : HO} (h : H a = some o) (m : Mut (some o)) (t : Muts G H) : Muts (a :: G) H := fun b hb => by
  rcases List.mem_cons.mp hb with e | hb
  · rw [e]; exact ⟨o, h, m⟩
  · exact t b hb
theorem Muts.app {G1 G2 : List Addr} {H : Hp} (a : Muts G1 H) (b : Muts G2 H) : Muts (G1 ++ G2) H := fun x hx => (List.mem_append.mp hx).elim (a x) (b x)
mutual
theorem ORep.cells {mg : Mg} {H : Hp} : ∀ {x : OTr} {v : V} {G : List Addr}, ORep mg H x v G → Muts G H
  | _, _, _, .fz _ => fun _ h => absurd h List.not_mem_nil
  | _, _, _, .lst h _ r => Muts.cons h trivial (OReps.cells r)
  | _, _, _, .tup _ _ r => OReps.cells r
  | _, _, _, .dct h _ r => Muts.cons h trivial (ORepD.cells r)
  | _, _, _, .ins h _ r => Muts.cons h trivial (ORepF.cells r)
theorem OReps.cells {mg : Mg} {H : Hp} : ∀ {x : List OTr} {v : List V} {G : List Addr}, OReps mg H x v G → Muts G H
  | _, _, _, .nil => fun _ h => absurd h List.not_mem_nil
  | _, _, _, .cons a b => Muts.app (ORep.cells a) (OReps.cells b)
theorem ORepD.cells {mg : Mg} {H : Hp} : ∀ {x : List (Key × OTr)} {v : List (Key × V)} {G : List Addr}, ORepD mg H x v G → Muts G H
  | _, _, _, .nil => fun _ h => absurd h List.not_mem_nil
  | _, _, _, .cons a b => Muts.app (ORep.cells a) (ORepD.cells b)
theorem ORepF.cells {mg : Mg} {H : Hp} : ∀ {x : List (Str × OTr)} {v : List (Str × V)} {G : List Addr}, ORepF mg H x v G → Muts G H
  | _, _, _, .nil => fun _ h => absurd h List.not_mem_nil
  | _, _, _, .cons a b => Muts.app (ORep.cells a) (ORepF.cells b)
end
/-- locked: S holds all of the things' places -/
abbrev Lkd (S : List Addr) (H H1 : Hp) : Prop := ∀ a ∈ S, ∀ u, H a = some u → ∃ o, H1 a = some (.frz o u)
theorem Lkd.l {G1 G2 : List Addr} {H H' : Hp} (k : Lkd (G1 ++ G2) H H') : Lkd G1 H H' := fun a ha => k a (List.mem_append_left _ ha)
theorem Lkd.r {G1 G2 : List Addr} {H H' : Hp} (k : Lkd (G1 ++ G2) H H') : Lkd G2 H H' := fun a ha => k a (List.mem_append_right _ ha)
theorem Lkd.t {a : Addr} {G : List Addr} {H H' : Hp} (k : Lkd (a :: G) H H') : Lkd G H H' := fun a ha => k a (List.mem_cons_of_mem _ ha)
mutual
theorem ORep.lockd {mg : Mg} {H H1 : Hp} (f : Fzs H H1) : ∀ {x : OTr} {v : V} {G : List Addr}, ORep mg H x v G → Lkd G H H1 → VRep mg H1 (er x) v
  | _, _, _, .fz h, _ => by unfold er; exact h.mono f
  | _, _, _, .lst h z r, k => by
    obtain ⟨o, ho⟩ := k _ List.mem_cons_self _ h
    unfold er
    exact .lst ho (by rw [ers_len]; exact z) (OReps.lockd f r k.t)
  | _, _, _, .tup h z r, k => by
    unfold er
    exact .tup (f _ _ trivial h) (by rw [ers_len]; exact z) (OReps.lockd f r k)
  | _, _, _, .dct h z r, k => by
    obtain ⟨o, ho⟩ := k _ List.mem_cons_self _ h
    unfold er
    exact .dct ho (by rw [erd_len]; exact z) (ORepD.lockd f r k.t)
  | _, _, _, .ins h m r, k => by
    obtain ⟨o, ho⟩ := k _ List.mem_cons_self _ h
    unfold er
    exact .ins ho m (ORepF.lockd f r k.t)
theorem OReps.lockd {mg : Mg} {H H1 : Hp} (f : Fzs H H1) : ∀ {x : List OTr} {v : List V} {G : List Addr}, OReps mg H x v G → Lkd G H H1 → VReps mg H1 (ers x) v
  | _, _, _, .nil, _ => by unfold ers; exact .nil
  | _, _, _, .cons a b, k => by unfold ers; exact .cons (ORep.lockd f a k.l) (OReps.lockd f b k.r)
theorem ORepD.lockd {mg : Mg} {H H1 : Hp} (f : Fzs H H1) : ∀ {x : List (Key × OTr)} {v : List (Key × V)} {G : List Addr}, ORepD mg H x v G → Lkd G H H1 → VRepD mg H1 (erd x) v
  | _, _, _, .nil, _ => by unfold erd; exact .nil
  | _, _, _, .cons a b, k => by unfold erd; exact .cons (ORep.lockd f a k.l) (ORepD.lockd f b k.r)
theorem ORepF.lockd {mg : Mg} {H H1 : Hp} (f : Fzs H H1) : ∀ {x : List (Str × OTr)} {v : List (Str × V)} {G : List Addr}, ORepF mg H x v G → Lkd G H H1 → VRepF mg H1 (erf x) v
  | _, _, _, .nil, _ => by unfold erf; exact .nil
  | _, _, _, .cons a b, k => by unfold erf; exact .cons (ORep.lockd f a k.l) (ORepF.lockd f b k.r)
end
def oU (mg : Mg) (t : OTr) : Od where
  pr G H v := ORep mg H t v G
  pd := pU mg (er t)
  frame := fun h k f => h.frame f k
  cells := fun h => h.cells
  lockd := fun h h1 h2 => h.lockd (lk_fzs h.cells h1) h2
end L3
end
section
set_option Elab.async false
set_option linter.all false
set_option maxRecDepth 100000
set_option maxHeartbeats 4000000
namespace L3
open PySem PySem.Spec PyProof.Rows L2
/-! ### equality of data with texts in them -/
structure Dg {α : Type} [DecidableEq α] (E : α → Pd) where
  toD : α → PyData
  dp : ∀ {K H v x}, (E x).pr H v → Dp K H v (toD x)
  dep : Nat
  ok : α → Bool
  can : ∀ x, ok x = true → (toD x).canLay0 = true
  deep : ∀ x, (toD x).depth ≤ dep
  eq : ∀ x y, PyData.eqv (toD x) (toD y) = decide (x = y)
def strOk (x : Str) : Bool := PyData.strOk x
def Dt.g {α : Type} [DecidableEq α] {E : α → Pd} (d : Dt E) : Dg E := ⟨d.toD, d.dp, d.dep, fun _ => true, fun x _ => d.can x, d.deep, d.eq⟩
def dgInt : Dg pInt := dtInt.g
def dgBl : Dg pBl := dtBl.g
def dgStr : Dg pStr := ⟨.str, fun h => by rw [h]; exact .str _, 0, strOk, fun x h => h, fun _ => Nat.le_refl 0, fun x y => by show (x == y) = _; by_cases h : x = y <;> simp [h]⟩
def dgT2 {α β : Type} {E : α → Pd} {G : β → Pd} [DecidableEq α] [DecidableEq β] (d : Dg E) (e : Dg G) : Dg (pT2 E G) := ⟨fun x => .tuple [d.toD x.1, e.toD x.2], fun ⟨a, u, w, ev, h, p, q⟩ => by rw [ev]; exact .tup (.inl (.inl h)) (.cons (d.dp p) (.cons (e.dp q) .nil)), max d.dep e.dep + 1, fun x => d.ok x.1 && e.ok x.2, fun x h => by
  obtain ⟨h1, h2⟩ := Bool.and_eq_true_iff.mp h
  show (PyData.canLay0 (d.toD x.1) && (PyData.canLay0 (e.toD x.2) && true)) = true
  rw [d.can _ h1, e.can _ h2]; rfl, fun x => by
  show PyData.depthAll [d.toD x.1, e.toD x.2] + 1 ≤ _
  have h1 := d.deep x.1
  have h2 := e.deep x.2
  have : PyData.depthAll [d.toD x.1, e.toD x.2] = max (PyData.depth (d.toD x.1)) (max (PyData.depth (e.toD x.2)) 0) := rfl
  rw [this]
  omega, fun x y => by
  show (PyData.eqv (d.toD x.1) (d.toD y.1) && (PyData.eqv (e.toD x.2) (e.toD y.2) && true)) = _
  rw [d.eq, e.eq]
  obtain ⟨x1, x2⟩ := x
  obtain ⟨y1, y2⟩ := y
  by_cases h1 : x1 = y1 <;> by_cases h2 : x2 = y2 <;> simp [h1, h2]⟩
def dgT3 {α β δ : Type} {E : α → Pd} {G : β → Pd} {K : δ → Pd} [DecidableEq α] [DecidableEq β] [DecidableEq δ] (d : Dg E) (e : Dg G) (f : Dg K) : Dg (pT3 E G K) := ⟨fun x => .tuple [d.toD x.1, e.toD x.2.1, f.toD x.2.2], fun ⟨a, u, w, z, ev, h, p, q, r⟩ => by rw [ev]; exact .tup (.inl (.inl h)) (.cons (d.dp p) (.cons (e.dp q) (.cons (f.dp r) .nil))), max d.dep (max e.dep f.dep) + 1, fun x => d.ok x.1 && (e.ok x.2.1 && f.ok x.2.2), fun x h => by
  obtain ⟨h1, h⟩ := Bool.and_eq_true_iff.mp h
  obtain ⟨h2, h3⟩ := Bool.and_eq_true_iff.mp h
  show (PyData.canLay0 (d.toD x.1) && (PyData.canLay0 (e.toD x.2.1) && (PyData.canLay0 (f.toD x.2.2) && true))) = true
  rw [d.can _ h1, e.can _ h2, f.can _ h3]; rfl, fun x => by
  show PyData.depthAll [d.toD x.1, e.toD x.2.1, f.toD x.2.2] + 1 ≤ _
  have h1 := d.deep x.1
  have h2 := e.deep x.2.1
  have h3 := f.deep x.2.2
  have : PyData.depthAll [d.toD x.1, e.toD x.2.1, f.toD x.2.2] = max (PyData.depth (d.toD x.1)) (max (PyData.depth (e.toD x.2.1)) (max (PyData.depth (f.toD x.2.2)) 0)) := rfl
  rw [this]
  omega, fun x y => by
  show (PyData.eqv (d.toD x.1) (d.toD y.1) && (PyData.eqv (e.toD x.2.1) (e.toD y.2.1) && (PyData.eqv (f.toD x.2.2) (f.toD y.2.2) && true))) = _
  rw [d.eq, e.eq, f.eq]
  obtain ⟨x1, x2, x3⟩ := x
  obtain ⟨y1, y2, y3⟩ := y
  by_cases h1 : x1 = y1 <;> by_cases h2 : x2 = y2 <;> by_cases h3 : x3 = y3 <;> simp [h1, h2, h3]⟩
theorem gdp_all {α : Type} {E : α → Pd} [DecidableEq α] (d : Dg E) {K : PySem.W.Frag} {H : Hp} : ∀ {xs : List α} {vs : List V}, Paired (fun x u => (E x).pr H u) xs vs → DpAll K H vs (xs.map d.toD)
  | _, _, .nil => .nil
  | _, _, .cons r t => .cons (d.dp r) (gdp_all d t)
theorem gcan_all {α : Type} {E : α → Pd} [DecidableEq α] (d : Dg E) : ∀ xs : List α, xs.all d.ok = true → PyData.canLayAll0 (xs.map d.toD) = true
  | [], _ => rfl
  | x :: xs, h => by
    rw [List.all_cons] at h
    obtain ⟨h1, h2⟩ := Bool.and_eq_true_iff.mp h
    show (PyData.canLay0 (d.toD x) && PyData.canLayAll0 (xs.map d.toD)) = true
    rw [d.can x h1, gcan_all d xs h2]; rfl
theorem gdeep_all {α : Type} {E : α → Pd} [DecidableEq α] (d : Dg E) : ∀ xs : List α, PyData.depthAll (xs.map d.toD) ≤ d.dep
  | [] => Nat.zero_le _
  | x :: xs => Nat.max_le.mpr ⟨d.deep x, gdeep_all d xs⟩
theorem geqv_all {α : Type} {E : α → Pd} [DecidableEq α] (d : Dg E) : ∀ xs ys : List α, PyData.eqvAll (xs.map d.toD) (ys.map d.toD) = decide (xs = ys)
  | [], [] => rfl
  | [], _ :: _ => rfl
  | _ :: _, [] => rfl
  | x :: xs, y :: ys => by
    show (PyData.eqv (d.toD x) (d.toD y) && PyData.eqvAll (xs.map d.toD) (ys.map d.toD)) = _
    rw [d.eq, geqv_all d xs ys]
    by_cases h : x = y <;> by_cases h2 : xs = ys <;> simp [h, h2]
def dgL {α : Type} {E : α → Pd} [DecidableEq α] (d : Dg E) : Dg (pL E) := ⟨fun xs => .list (xs.map d.toD), fun ⟨a, o, vs, e, h, z, p⟩ => by rw [e]; exact .lst (.inl (.inr ⟨o, h⟩)) (gdp_all d p), d.dep + 1, fun xs => xs.all d.ok, fun xs h => gcan_all d xs h, fun xs => Nat.succ_le_succ (gdeep_all d xs), fun xs ys => geqv_all d xs ys⟩
def dgTL {α : Type} {E : α → Pd} [DecidableEq α] (d : Dg E) : Dg (pTL E) := ⟨fun xs => .tuple (xs.map d.toD), fun ⟨a, vs, e, h, z, p⟩ => by rw [e]; exact .tup (.inl (.inl h)) (gdp_all d p), d.dep + 1, fun xs => xs.all d.ok, fun xs h => gcan_all d xs h, fun xs => Nat.succ_le_succ (gdeep_all d xs), fun xs ys => geqv_all d xs ys⟩
theorem Dg.sh {α : Type} {E : α → Pd} [DecidableEq α] (d : Dg E) (hd : d.dep < 60) {x : α} (h : d.ok x = true) : SeqAt.shaped (d.toD x) = true := by
  show (PyData.canLay0 (d.toD x) && decide (PyData.depth (d.toD x) ≤ 64)) = true
  rw [d.can x h, decide_eq_true (by have := d.deep x; omega)]; rfl
section
variable {X : Cx} {W : Bool} {F : Fm} {Γ : Gm} {Δ : Δs} {γ : Type} {a b : Expr} {pos : Pos} {β1 β2 α : Type} [DecidableEq α] {T : Option γ} {k1 : β1 → Option γ} {k : β1 × β2 → Option γ} {Δ1 : β1 → Δs} {Δ2 : β1 → β2 → Δs} {Ee : α → Pd} {x : β1 → α} {y : β1 → β2 → α}
/-- both are fit to be compared -/
def okG (d : Dg Ee) (x y : α) : Bool := d.ok x && d.ok y
theorem x_eqG (d : Dg Ee) (hu : X.A.units + 64 < cLine) (ha : PE X a (tE W F Γ Δ T k1 (fun b => Ee (x b)) Δ1)) (hb : ∀ b1, PE X b (tE W F Γ (Δ1 b1) (k1 b1) (fun b2 => grd (okG d (x b1) (y b1 b2) = true) (k (b1, b2))) (fun b2 => Ee (y b1 b2)) (Δ2 b1))) (hd : d.dep < 60 := by decide) :
    PE X (.Compare a [.Eq] [b] pos) (tE W F Γ Δ T k (fun b => pBl (decide (x b.1 = y b.1 b.2))) fun b => Δ2 b.1 b.2) :=
  x2g (b_cmp (op_eqD hu) (nomark _)) ha hb fun b1 b2 σ v w H Q ok c hv hw q => by
    obtain ⟨c1, c2⟩ := Bool.and_eq_true_iff.mp c
    exact ⟨_, _, d.dp hv, d.dp hw, d.sh hd c1, d.sh hd c2, by rw [d.eq]; exact q _ rfl⟩
theorem x_neG (d : Dg Ee) (hu : X.A.units + 64 < cLine) (ha : PE X a (tE W F Γ Δ T k1 (fun b => Ee (x b)) Δ1)) (hb : ∀ b1, PE X b (tE W F Γ (Δ1 b1) (k1 b1) (fun b2 => grd (okG d (x b1) (y b1 b2) = true) (k (b1, b2))) (fun b2 => Ee (y b1 b2)) (Δ2 b1))) (hd : d.dep < 60 := by decide) :
    PE X (.Compare a [.NotEq] [b] pos) (tE W F Γ Δ T k (fun b => pBl (!decide (x b.1 = y b.1 b.2))) fun b => Δ2 b.1 b.2) :=
  x2g (b_cmp (op_neD hu) (nomark _)) ha hb fun b1 b2 σ v w H Q ok c hv hw q => by
    obtain ⟨c1, c2⟩ := Bool.and_eq_true_iff.mp c
    exact ⟨_, _, d.dp hv, d.dp hw, d.sh hd c1, d.sh hd c2, by rw [d.eq]; exact q _ rfl⟩
end
section
variable {X : Cx} {W : Bool} {F : Fm} {Γ : Gm} {Δ : Δs} {γ : Type}
/-! ### range(i, j, -1) -/
def rngD (lo : Int) (n : Nat) : List Int := (List.range n).map fun (i : Nat) => lo - (i : Int)
theorem rngD_len (lo : Int) (n : Nat) : (rngD lo n).length = n := by unfold rngD; rw [List.length_map, List.length_range]
theorem rngD_walk {lo : Int} {n : Nat} {H : Hp} : WalkF (Itc lo (-1) n) pInt (rngD lo n) H := fun H2 f2 i => by
  rw [rngD_len]
  refine ⟨fun h => h, fun h => h, fun x v H3 hx hy => ?_⟩
  obtain ⟨e1, e2⟩ := hy
  subst e1
  refine ⟨Gr.refl _, ?_⟩
  unfold rngD at hx
  rw [List.getElem?_map] at hx
  cases hr : (List.range n)[i]? with
  | none => rw [hr] at hx; cases hx
  | some m =>
    rw [hr] at hx
    have hi : i < n := by
      have := (List.getElem?_eq_some_iff.mp hr).1
      rwa [List.length_range] at this
    rw [List.getElem?_range hi] at hr
    cases hr
    have hx : lo - (i : Int) = x := by simpa using hx
    rw [← hx, e2, show lo + (i : Int) * (-1) = lo - (i : Int) by omega]
    rfl
theorem i_rngD {tg a b c : Expr} {p pos : Pos} {β1 β2 : Type} {T : Option γ} {k1 : β1 → Option γ} {k : β1 × β2 → Option γ} {m : β1 → Int} {n : β1 → β2 → Int} {Δ1 : β1 → Δs} {Δ2 : β1 → β2 → Δs} (hm : X.mg "range" = none) (ha : PE X a (tE W F Γ Δ T k1 (fun b => pInt (m b)) Δ1))
    (hb : ∀ b1, PE X b (tE W F Γ (Δ1 b1) (k1 b1) (fun b2 => grd (rg2 (n b1 b2) (m b1) = true) (k (b1, b2))) (fun b2 => pInt (n b1 b2)) (Δ2 b1))) (hc : PE X c (tC (.int (-1)))) (hg : Gl X "range" := by rfl)
    (hs3 : starEach [c] X.env = (false, eval c X.env) :: starEach [] X.env := by rfl) (hs2 : starEach [b, c] X.env = (false, eval b X.env) :: starEach [c] X.env := by rfl) (hs : starEach [a, b, c] X.env = (false, eval a X.env) :: starEach [b, c] X.env := by rfl) (hpl : (backTo pos (starEach [b, c] X.env)).any (·.1) = false := by rfl) : PI X tg (.Call (.Name "range" p) [a, b, c] [] pos) (tI W F Γ Δ T k pInt (fun b => rngD (m b.1) (m b.1 - n b.1 b.2).toNat) fun b => Δ2 b.1 b.2) :=
  (pi_range3 hg hm (pa_cons ha (pa_cons (pe_ex hb) (pa_cons hc pa_nil hs3) hs2) hs) hs hpl).wk fun σ H R ⟨ok, g, e, q⟩ => ⟨ok, g, e, fun b1 v1 H1 kb1 f1 ok1 hv1 => ⟨b1, ok1, g, kb1, fun b2 v2 H2 kb2 f2 ok2 hv2 => by
    obtain ⟨c, kb⟩ := grd_some kb2
    obtain ⟨c1, c⟩ := Bool.and_eq_true_iff.mp c
    obtain ⟨c2, c⟩ := Bool.and_eq_true_iff.mp c
    obtain ⟨c3, c⟩ := Bool.and_eq_true_iff.mp c
    obtain ⟨c4, c5⟩ := Bool.and_eq_true_iff.mp c
    have c5 := of_decide_eq_true c5
    have hv1 : v1 = .int (m b1) := hv1
    have hv2 : v2 = .int (n b1 b2) := hv2
    subst hv1 hv2
    exact ⟨m b1, n b1 b2, -1, _, rfl, RgC.neg (of_decide_eq_true c3) (of_decide_eq_true c4) (of_decide_eq_true c1) (of_decide_eq_true c2), q (b1, b2) _ H2 kb (f1.trans f2) ok2 (by rw [rngD_len]; have : sizeLine = 16777216 := rfl; dsimp only; omega) rngD_walk⟩⟩⟩
/-! ### a, b = e -/
theorem s_unp {tg e : Expr} {pos : Pos} {g : TG} {α β : Type} {T : Option γ} {N : Fn γ} {rest : List Stmt} {Ex : α → Pd} {bd : Gm → α → Gm} {Δ' : β → Δs} {val : β → α} {k2 : β → α → Option γ} (hg : PG X tg g) (ht : Tgt g Ex bd) (he : PE X e (tE true F Γ Δ T (fun b => (some (val b)).bind (k2 b)) (fun b => Ex (val b)) Δ'))
    (hr : ∀ b a, PSs X rest (tS F (bd Γ a) (Δ' b) N (k2 b a))) (hs : swapsWithSole [tg] e pos.line X.env = pure false := by rfl) (hw : swappedStores [tg] e X.env = pure none := by rfl) (h1 : (assignEach [tg] X.env).map (·.2) = [assign tg X.env] := by rfl) : PSs X (.Assign [tg] e pos :: rest) (tS F Γ Δ N T) :=
  (pss_cons (ps_asg he hg hs hw h1) (pss_ex fun b => hr b (val b))).wk fun D σ H ⟨ok, g, e, f⟩ => ⟨ok, g, e, fun b v H' kb fz ok' hv => ht F Γ _ σ H' (val b) v _ ok' hv fun σ' ok2 => ⟨b, ok2, g, kb, N.mono f fz.fz⟩⟩
/-! ### xs.reverse() -/
theorem Own3.rev {α : Type} {D : α → Od} {H : Hp} : ∀ {xs : List α} {vs : List V} {gs : List (List Addr)}, Own3 D H xs vs gs → Own3 D H xs.reverse vs.reverse gs.reverse
  | _, _, _, .nil => .nil
  | _, _, _, .cons r t => by
    rw [List.reverse_cons, List.reverse_cons, List.reverse_cons]
    exact t.rev.app r
theorem x_revO {o : Expr} {apos cpos : Pos} {β α : Type} {T : Option γ} {k : β → Option γ} {Δ1 : β → Δs} {D : α → Od} {xs : β → List α} {v : V} {prm : Option Nat} (j : Nat) (ho : PE X o (tE true F Γ Δ T k (fun _ => pV v) Δ1)) (hj : ∀ b, (Δ1 b)[j]? = some ⟨v, oLO D (xs b), prm⟩)
    (hbase : attributeBase o "reverse" X.env (eval o X.env) = eval o X.env := by rfl) (hline : (apos.endLine == cpos.line) = true := by rfl) :
    PE X (.Call (.Attribute o "reverse" apos) [] [] cpos) (tE true F Γ Δ T k (fun _ => pNon) fun b => (Δ1 b).set j ⟨v, oLO D (xs b).reverse, prm⟩) :=
  (pe_bm0 PySem.F.plainAttrs_list PySem.F.slot_list_reverse PySem.F.type_list_reverse mt_reverse ho hbase hline).wk fun σ H Q ⟨ok, g, e, q⟩ => ⟨ok, g, e, fun b u H1 kb f ok1 hu => by
    have hu : u = v := hu
    subst hu
    obtain ⟨G, ⟨p, vs, gs, eG, ev, hp, z, o3⟩, nd, turn⟩ := ok1.cellG (hj b)
    have eG : G = p :: gs.flatten := eG
    subst eG
    have ev : u = .ref p := ev
    have pG : p ∉ gs.flatten := (List.nodup_cons.mp nd).1
    have fzm : Fzs H1 (upd H1 p (.lst vs.reverse)) := Fzs.mut hp fun z => z
    have kp : ∀ a o, a ≠ p → H1 a = some o → upd H1 p (.lst vs.reverse) a = some o := fun a o na e => by rw [upd_ne na]; exact e
    have pm : gs.reverse.flatten.Perm gs.flatten := (List.reverse_perm gs).flatten
    obtain ⟨ok3, f3⟩ := turn (upd H1 p (.lst vs.reverse)) (oLO D (xs b).reverse) (p :: gs.reverse.flatten) (fun a o na e => kp a o (fun z => na (by rw [z]; exact List.mem_cons_self)) e) (fun a ha => by
        rcases List.mem_cons.mp ha with e | h
        · rw [e]; exact ⟨_, upd_same⟩
        · obtain ⟨o, e, _⟩ := o3.cells a h; exact upd_dom _ _ a o e) (List.nodup_cons.mpr ⟨fun h => pG (pm.mem_iff.mp h), pm.nodup_iff.mpr (List.nodup_cons.mp nd).2⟩) (fun a ha => .inl (by
        rcases List.mem_cons.mp ha with e | h
        · rw [e]; exact List.mem_cons_self
        · exact List.mem_cons_of_mem _ (pm.mem_iff.mp h))) ⟨p, vs.reverse, gs.reverse, rfl, ev, upd_same, by rw [List.length_reverse]; exact z, (o3.frame fzm fun a ha o e => kp a o (fun z => pG (by rw [← z]; exact ha)) e).rev⟩
    exact ⟨by rw [ev]; exact .inl ⟨rfl, vs, .inl (.inl hp)⟩, p, vs, ev, rfl, hp, q b .non _ kb (f.trans f3) ok3 rfl⟩⟩
/-! ### i in s, s a set of one's own -/
section
variable {a b : Expr} {pos : Pos} {β1 β2 : Type} {T : Option γ} {k1 : β1 → Option γ} {k : β1 × β2 → Option γ} {Δ1 : β1 → Δs} {Δ2 : β1 → β2 → Δs} {i : β1 → Int} {v0 : V} {xs : β1 → β2 → List Int} {prm : Option Nat}
theorem x_inSet (j : Nat) (ha : PE X a (tE W F Γ Δ T k1 (fun b => pInt (i b)) Δ1)) (hb : ∀ b1, PE X b (tE W F Γ (Δ1 b1) (k1 b1) (fun b2 => k (b1, b2)) (fun _ => pV v0) (Δ2 b1))) (hj : ∀ b1 b2, (Δ2 b1 b2)[j]? = some ⟨v0, oSet X.w (xs b1 b2), prm⟩) (hmk : behindInMarks .In b = false := by rfl) :
    PE X (.Compare a [.In] [b] pos) (tE W F Γ Δ T k (fun b => pBl (decide (i b.1 ∈ xs b.1 b.2))) fun b => Δ2 b.1 b.2) :=
  x2t (b_cmp or_sin hmk) ha hb (v_inSet j hj)
theorem t_inSet (j : Nat) (ha : PE X a (tE W F Γ Δ T k1 (fun b => pInt (i b)) Δ1)) (hb : ∀ b1, PE X b (tE W F Γ (Δ1 b1) (k1 b1) (fun b2 => k (b1, b2)) (fun _ => pV v0) (Δ2 b1))) (hj : ∀ b1 b2, (Δ2 b1 b2)[j]? = some ⟨v0, oSet X.w (xs b1 b2), prm⟩) (hmk : behindInMarks .In b = false := by rfl) :
    PT X (.Compare a [.In] [b] pos) (tTs W F Γ Δ T k (fun b => decide (i b.1 ∈ xs b.1 b.2)) fun b => Δ2 b.1 b.2) :=
  t2t (bt_cmp or_sin hmk) ha hb (v_inSet j hj)
end
end
end L3
end
section
set_option Elab.async false
set_option linter.all false
set_option maxRecDepth 100000
set_option maxHeartbeats 4000000
namespace L3
open PySem PySem.Spec PyProof.Rows L2
/-! ### [e for x in xs for y in ys] -/
def comp2 {α δ : Type} : List α → (α → Option (List δ)) → Option (List δ)
  | [], _ => some []
  | x :: xs, f => (f x).bind fun r => (comp2 xs f).bind fun t => some (r ++ t)
section
variable {X : Cx} {W : Bool} {F : Fm} {Γ : Gm} {Δ : Δs} {γ : Type}
variable {α α2 β β4 β5 δ : Type} {g g2 : TG} {own : List (Str × Nat)} {vs1 : List Nat} {T : Option γ} {k0 : β → Option γ} {k : β × List δ → Option γ} {Ex : α → Pd} {Ex2 : α2 → Pd} {Ee : δ → Pd} {bd : Gm → α → Gm} {bd2 : Gm → α2 → Gm} {xs : β → List α} {C : β → Δs} {f : β → α → Option (List δ)}
    {ys : β → α → β4 → List α2} {h : β → α → β4 → α2 → Option δ} {e : β → α → β4 → α2 → β5 → δ}
abbrev l2I (W : Bool) (F : Fm) (Γ : Gm) (own : List (Str × Nat)) (bd : Gm → α → Gm) (C : β → Δs) (f : β → α → Option (List δ)) (Ex2 : α2 → Pd) (ys : β → α → β4 → List α2) (h : β → α → β4 → α2 → Option δ) : TI := fun σ H R => ∃ d b x, tI W F (bd (wipeG Γ (own.map (·.2))) x) (C b ++ [d]) (f b x) (fun b4 => (compM (ys b x b4) () fun y _ => (h b x b4 y).bind fun z => some (some z, ())).bind fun r => some r.1) Ex2 (ys b x) (fun _ => C b ++ [d]) σ H R
abbrev l2E (W : Bool) (F : Fm) (Γ : Gm) (own : List (Str × Nat)) (vs1 : List Nat) (bd : Gm → α → Gm) (bd2 : Gm → α2 → Gm) (C : β → Δs) (h : β → α → β4 → α2 → Option δ) (Ee : δ → Pd) (e : β → α → β4 → α2 → β5 → δ) : TE := fun σ H Q => ∃ d b x b4 y, tE W F (bd2 (wipeG (bd (wipeG Γ (own.map (·.2))) x) vs1) y) (C b ++ [d]) (h b x b4 y) (fun b5 => some (e b x b4 y b5)) (fun b5 => Ee (e b x b4 y b5)) (fun _ => C b ++ [d]) σ H Q
def tTru : TT := fun _ H Q => Q true H
theorem compM_one {y : α2} {r : List α2} {hh : α2 → Option δ} {o : List δ × Unit} (ec : compM (y :: r) () (fun y _ => (hh y).bind fun z => some (some z, ())) = some o) : ∃ z o2, hh y = some z ∧ compM r () (fun y _ => (hh y).bind fun z => some (some z, ())) = some o2 ∧ o.1 = z :: o2.1 := by
  obtain ⟨q, eq, ec⟩ := bind_some (show ((hh y).bind fun z => some (some z, ())).bind _ = some o from ec)
  obtain ⟨z, ez, eq⟩ := bind_some eq
  cases eq
  obtain ⟨o2, e2, ec⟩ := bind_some ec
  cases ec
  exact ⟨z, o2, ez, e2, rfl⟩
/-- a new element is put at the end of what is made -/
theorem put_last {σ : SS} {Γ' : Gm} {Δc : Δs} {D : Addr} {acc : List δ} {z : δ} {w : V} {H6 : Hp} (ok6 : Ok F Γ' (Δc ++ [⟨.ref D, oL Ee acc, none⟩]) σ H6) (hw : (Ee z).pr H6 w) (hl : acc.length < sizeLine) : ∃ vs, H6 D = some (.lst vs) ∧ vs.length < sizeLine ∧ Hk F (Δc ++ [⟨.ref D, oL Ee (acc ++ [z]), none⟩]) (upd H6 D (.lst (vs ++ [w]))) ∧ St true H6 (upd H6 D (.lst (vs ++ [w]))) := by
  have hlast : (Δc ++ [⟨.ref D, oL Ee acc, none⟩] : Δs)[Δc.length]? = some ⟨.ref D, oL Ee acc, none⟩ := by rw [List.getElem?_append_right (Nat.le_refl _), Nat.sub_self]; rfl
  obtain ⟨G', ⟨D', vs, eG, eD, hD, zD, pD⟩, _, turn⟩ := ok6.hk.cell hlast
  cases eD
  subst eG
  have fzm : Fzs H6 (upd H6 D (.lst (vs ++ [w]))) := Fzs.mut hD fun z => z
  obtain ⟨hk7, st7⟩ := turn (upd H6 D (.lst (vs ++ [w]))) (oL Ee (acc ++ [z])) (fun a o na e => by
    rw [upd_ne fun z => na (by rw [z]; exact List.mem_singleton.mpr rfl)]; exact e)
    ⟨D, vs ++ [w], rfl, rfl, upd_same, by rw [List.length_append, List.length_singleton]; omega, paired_app (paired_mono (fun x _ => (Ee x).mono fzm) pD) (.cons ((Ee _).mono fzm hw) .nil)⟩
  refine ⟨vs, hD, by rw [← paired_len pD]; exact hl, ?_, st7⟩
  rw [List.set_append_right _ _ (Nat.le_refl _), Nat.sub_self] at hk7
  exact hk7
theorem l2_imp (hrun : ∀ b gg, k0 b = some gg → ∃ r, comp2 (xs b) (f b) = some r ∧ r.length ≤ sizeLine ∧ k (b, r) = some gg) (ht : TgtW g Ex bd (own.map (·.2))) (ht2 : TgtW g2 Ex2 bd2 vs1) :
    ∀ σ H Q, tO W F Γ Δ T k (fun b => oL Ee b.2) (fun b => C b.1) σ H Q → tLc2 (tI W F Γ Δ T k0 Ex xs C) g tTru (l2I W F Γ own bd C f Ex2 ys h) g2 tTru (l2E W F Γ own vs1 bd bd2 C h Ee e) (own.map (·.2)) vs1 σ H Q :=
  fun σ H Q ⟨ok0, gg, eT, q⟩ => ⟨ok0, gg, eT, fun b J H1 kb f1 ok1 zl wk D nD => by
    obtain ⟨rs, er, zr, kr⟩ := hrun b gg kb
    have grD : Gr H1 (upd H1 D (.lst [])) := Gr.new nD
    have hk0 : Hk F (C b ++ [⟨.ref D, oL Ee [], none⟩]) (upd H1 D (.lst [])) := (ok1.newL (W := true) (E := Ee) (xs := []) nD (Nat.zero_le _) .nil).1.ok.hk.perm (List.perm_append_singleton _ _).symm
    refine ⟨fun i m H' => i + m = (xs b).length ∧ St W H1 H' ∧ ∃ acc rest, Hk F (C b ++ [⟨.ref D, oL Ee acc, none⟩]) H' ∧ comp2 ((xs b).drop i) (f b) = some rest ∧ acc ++ rest = rs, ⟨(xs b).length, Nat.zero_add _, grD.st, [], rs, hk0, by rw [List.drop_zero]; exact er, rfl⟩, fun i m H2 ⟨em, st2, acc, rest, hk2, ec, ea⟩ => ?_⟩
    by_cases hi : i < (xs b).length
    · obtain ⟨x, hx, ed⟩ := drop_cons hi
      rw [ed] at ec
      obtain ⟨r, efx, ec⟩ := bind_some (show (f b x).bind _ = some rest from ec)
      obtain ⟨t, ert, ec⟩ := bind_some ec
      cases ec
      refine .inr ⟨((wk H2 st2.fz) i).1 hi, fun H' => (i + 1) + (m - 1) = (xs b).length ∧ St W H1 H' ∧ ∃ acc rest, Hk F (C b ++ [⟨.ref D, oL Ee acc, none⟩]) H' ∧ comp2 ((xs b).drop (i + 1)) (f b) = some rest ∧ acc ++ rest = rs, fun H' h => ⟨m - 1, by omega, h⟩, fun v H3 hy => ?_⟩
      obtain ⟨gr3, pv⟩ := ((wk H2 st2.fz) i).2.2 x v H3 hx hy
      have st3 : St W H1 H3 := st2.trans gr3.st
      refine ht F Γ _ σ H3 x v _ (ok1.wipe st3.fz (hk2.gr gr3) _) pv fun σ4 ew ok4 => ⟨ew, ?_⟩
      unfold tTru
      refine iteT ⟨⟨.ref D, oL Ee acc, none⟩, b, x, ok4, r, efx, fun b4 J1 H5 kb4 st5 ok5 zl5 wk5 => ?_⟩
      obtain ⟨⟨ri, u⟩, eci, eri⟩ := bind_some kb4
      have eri : ri = r := Option.some.inj eri
      refine ⟨fun jn mn H' => jn + mn = (ys b x b4).length ∧ Fzs H5 H' ∧ St W H1 H' ∧ ∃ acc2 rest2, Hk F (C b ++ [⟨.ref D, oL Ee acc2, none⟩]) H' ∧ compM ((ys b x b4).drop jn) () (fun y _ => (h b x b4 y).bind fun z => some (some z, ())) = some (rest2, ()) ∧ acc2 ++ rest2 = acc ++ r, ⟨(ys b x b4).length, Nat.zero_add _, Fzs.refl _, st3.trans st5, acc, r, ok5.hk, by rw [List.drop_zero, ← eri]; exact eci, rfl⟩, fun jn mn H6 ⟨emn, fz6, st6, acc2, rest2, hk6, ec2, ea2⟩ => ?_⟩
      by_cases hj : jn < (ys b x b4).length
      · obtain ⟨y, hy2, ed2⟩ := drop_cons hj
        rw [ed2] at ec2
        obtain ⟨z, o2, ez, eo2, e3⟩ := compM_one ec2
        refine .inr ⟨((wk5 H6 fz6) jn).1 hj, fun H' => (jn + 1) + (mn - 1) = (ys b x b4).length ∧ Fzs H5 H' ∧ St W H1 H' ∧ ∃ acc2 rest2, Hk F (C b ++ [⟨.ref D, oL Ee acc2, none⟩]) H' ∧ compM ((ys b x b4).drop (jn + 1)) () (fun y _ => (h b x b4 y).bind fun z => some (some z, ())) = some (rest2, ()) ∧ acc2 ++ rest2 = acc ++ r, fun H' h => ⟨mn - 1, by omega, h⟩, fun v2 H7 hy7 => ?_⟩
        obtain ⟨gr7, pv7⟩ := ((wk5 H6 fz6) jn).2.2 y v2 H7 hy2 hy7
        have st7 : St W H1 H7 := st6.trans gr7.st
        have fz7 : Fzs H5 H7 := fz6.trans gr7.fzs
        refine ht2 F _ _ σ4 H7 y v2 _ (ok5.wipe fz7 (hk6.gr gr7) _) pv7 fun σ8 ew8 ok8 => ⟨ew8, ?_⟩
        refine iteT ⟨⟨.ref D, oL Ee acc2, none⟩, b, x, b4, y, ok8, z, ez, fun b5 w H9 kb5 st9 ok9 hw => ?_⟩
        have ez5 : e b x b4 y b5 = z := Option.some.inj kb5
        have hw : (Ee (e b x b4 y b5)).pr H9 w := hw
        rw [ez5] at hw
        have e3 : rest2 = z :: o2.1 := e3
        have hlen : acc2.length < sizeLine := by
          have l1 : (acc2 ++ rest2).length = (acc ++ r).length := congrArg List.length ea2
          have l2 : (acc ++ (r ++ t)).length = rs.length := congrArg List.length ea
          rw [e3, List.length_append, List.length_append, List.length_cons] at l1
          rw [List.length_append, List.length_append] at l2
          omega
        obtain ⟨vs, hD, hz, hk10, st10⟩ := put_last ok9 hw hlen
        refine ⟨vs, hD, hz, by omega, (fz7.trans st9.fz).trans st10.fz, ⟨(st7.fz.trans st9.fz).trans st10.fz, fun hW a o ea => ?_, fun a o ea => ?_⟩, acc2 ++ [z], o2.1, hk10, eo2, by rw [← ea2, e3, List.append_assoc]; rfl⟩
        · rw [upd_ne (ne_of_none ea nD)]
          exact (st7.trans st9).kp hW a o ea
        · obtain ⟨u, eu⟩ := (st7.trans st9).dom a o ea
          exact st10.dom a u eu
      · refine .inl ⟨((wk5 H6 fz6) jn).2.1 (by omega), by omega, st6, acc2, t, hk6, ert, ?_⟩
        rw [List.drop_eq_nil_of_le (by omega)] at ec2
        have ec2 : some (([] : List δ), ()) = some (rest2, ()) := ec2
        cases ec2
        rw [List.append_nil] at ea2
        rw [ea2, List.append_assoc]
        exact ea
    · refine .inl ⟨((wk H2 st2.fz) i).2.1 (by omega), ?_⟩
      rw [List.drop_eq_nil_of_le (by omega)] at ec
      have ec : some ([] : List δ) = some rest := ec
      cases ec
      rw [List.append_nil] at ea
      subst ea
      have hkf := hk2.perm (List.perm_append_singleton _ _)
      exact q (b, acc) _ H2 kr (f1.trans st2) (hkf.one (ok1.nm.mono st2.fz) (f1.back nD))⟩
theorem pts_tru {Y : Cx} : PTs Y [] tTru := ⟨fun pins s σ H Q I q => pts_nil.run pins s σ H Q I q⟩
theorem x_T {Y : Cx} {β : Type} {Γ : Gm} {Δ : Δs} {γ : Type} {e : Expr} {T T' : Option γ} {k : β → Option γ} {E : β → Pd} {Δ' : β → Δs} (h : PE Y e (tE W F Γ Δ T' k E Δ')) (hT : T = T') : PE Y e (tE W F Γ Δ T k E Δ') := by rw [hT]; exact h
theorem i_T {Y : Cx} {β α : Type} {Γ : Gm} {Δ : Δs} {γ : Type} {tg e : Expr} {T T' : Option γ} {k : β → Option γ} {Ex : α → Pd} {xs : β → List α} {Δ' : β → Δs} (h : PI Y tg e (tI W F Γ Δ T' k Ex xs Δ')) (hT : T = T') : PI Y tg e (tI W F Γ Δ T k Ex xs Δ') := by rw [hT]; exact h
theorem wipe_set {v : Option V} : ∀ {vs : List Nat} {σ : SS} {i : Nat}, i ∈ vs → L2.wipe (σ.set i v) vs = L2.wipe σ vs
  | [], _, _, h => absurd h List.not_mem_nil
  | j :: vs, σ, i, h => by
    show (L2.wipe (σ.set i v) vs).set j none = (L2.wipe σ vs).set j none
    by_cases hi : i ∈ vs
    · rw [wipe_set hi]
    · rcases List.mem_cons.mp h with e | h
      · subst e
        have : ∀ {vs : List Nat} {σ : SS}, i ∉ vs → L2.wipe (σ.set i v) vs = (L2.wipe σ vs).set i v := by
          intro vs
          induction vs with
          | nil => intro σ _; rfl
          | cons k vs ih =>
            intro σ hk
            rw [List.mem_cons, not_or] at hk
            show (L2.wipe (σ.set i v) vs).set k none = ((L2.wipe σ vs).set k none).set i v
            rw [ih hk.2, List.set_comm _ _ (fun z => hk.1 z)]
        rw [this hi, List.set_set]
      · exact absurd h hi
theorem wipe_wipe : ∀ {vs : List Nat} {us : List Nat} {σ : SS}, (∀ i ∈ us, i ∈ vs) → L2.wipe (L2.wipe σ us) vs = L2.wipe σ vs
  | vs, [], σ, _ => rfl
  | vs, u :: us, σ, h => by
    show L2.wipe ((L2.wipe σ us).set u none) vs = _
    rw [wipe_set (h u List.mem_cons_self), wipe_wipe fun i hi => h i (List.mem_cons_of_mem _ hi)]
theorem tw_in {α : Type} {Ex : α → Pd} {vs : List Nat} (i : Nat) (hi : i ∈ vs) : TgtW (gName i) Ex (fun Γ x => Γ.set i (some (Ex x))) vs := fun _ _ _ σ _ _ _ _ ok hv q => q _ (by
  rw [wipe_set hi, wipe_wipe fun _ h => h]) (ok.set hv)
theorem pe_m1 {j : Nat} {p pos : Pos} : PE X (.UnaryOp .USub (.Constant (.int 1) j p) pos) (tC (.int (-1))) := (pe_un un_neg pe_int).wk fun σ H Q q => ⟨1, rfl, q⟩
/-- [e for x in xs for y in ys] -/
theorem x_lc2 {elt tg iter tg1 iter1 : Expr} {scope : Scope} {pos : Pos} (nd : X.N.Nodup) (hi : PI X tg iter (tI W F Γ Δ T (fun b => (comp2 (xs b) (f b)).bind fun r => grd (r.length ≤ sizeLine) (k (b, r))) Ex xs C)) (ok : BlkOk X.N X.env.scope scope own) (hv : ∀ i ∈ vs1, i ∈ own.map (·.2))
    (hg : Blk X scope fun Y => PG Y tg g) (ht : TgtW g Ex bd (own.map (·.2))) (hg2 : Blk X scope fun Y => PG Y tg1 g2) (ht2 : TgtW g2 Ex2 bd2 vs1)
    (hi1 : ∀ (d : Cell), ∀ (s : Shared) (H : Hp) (Ca : Addr) (cl : List (Str × Addr)) (fp : List Addr) (b : β) (x : α), PI (X.blk s H scope (compEnvC scope cl Ca X.env) fp) tg1 iter1 (tI W F (bd (wipeG Γ (own.map (·.2))) x) (C b ++ [d]) (f b x) (fun b4 => (compM (ys b x b4) () fun y _ => (h b x b4 y).bind fun z => some (some z, ())).bind fun r => some r.1) Ex2 (ys b x) (fun _ => C b ++ [d])))
    (he : ∀ (d : Cell), ∀ (s : Shared) (H : Hp) (Ca : Addr) (cl : List (Str × Addr)) (fp : List Addr) (b : β) (x : α) (b4 : β4) (y : α2), PE (X.blk s H scope (compEnvC scope cl Ca X.env) fp) elt (tE W F (bd2 (wipeG (bd (wipeG Γ (own.map (·.2))) x) vs1) y) (C b ++ [d]) (h b x b4 y) (fun b5 => some (e b x b4 y b5)) (fun b5 => Ee (e b x b4 y b5)) (fun _ => C b ++ [d])))
    (hs : ∀ x, foldedSetIterable iter X.env x = pure x := by intro _; rfl) (hs1 : ∀ env x, foldedSetIterable iter1 env x = pure x := by intro _ _; rfl) (hc : X.calm = true := by rfl) :
    PE X (.ListComp elt [⟨tg, iter, [], 0⟩, ⟨tg1, iter1, [], 0⟩] scope pos) (tO W F Γ Δ T k (fun b => oL Ee b.2) fun b => C b.1) :=
  (pe_lc2 (te := l2E W F Γ own vs1 bd bd2 C h Ee e) (wi1 := l2I W F Γ own bd C f Ex2 ys h) (tt := tTru) (tt1 := tTru) hc nd hi ok hv hg (fun _ _ _ _ _ => pts_tru)
    (fun s H Ca cl fp => ⟨fun pins s' σ H' R I ⟨d, b, x, q⟩ => (hi1 d s H Ca cl fp b x).run pins s' σ H' R I q⟩) hg2 (fun _ _ _ _ _ => pts_tru)
    (fun s H Ca cl fp => ⟨fun pins s' σ H' Q I ⟨d, b, x, b4, y, q⟩ => (he d s H Ca cl fp b x b4 y).run pins s' σ H' Q I q⟩) hs hs1).wk (l2_imp (fun b gg kb => by
      obtain ⟨r, er, kb⟩ := bind_some kb
      obtain ⟨z, kb⟩ := grd_some kb
      exact ⟨r, er, z, kb⟩) ht ht2)
end
end L3
end
section
set_option Elab.async false
set_option linter.all false
set_option maxRecDepth 100000
set_option maxHeartbeats 4000000
set_option pp.maxSteps 200
noncomputable section
namespace My
open PySem PySem.Spec PyProof.Rows L2 L3
@[irreducible] def M_side_of (a1 : List Int) : Option (List Int) :=
  grd (a1.length + 1 < scanBound) (some (sideL a1))
@[irreducible] def M_within_bounds (a1 : Int) (a2 : Option Int) (a3 : Option Int) : Option (Bool) :=
  ((if (a2.isNone) = true then some (true, ()) else (a2).bind fun u2 => some ((decide (u2 ≤ a1)), ()))).bind fun c3 => ((if c3.1 = true then ((if (a3.isNone) = true then some (true, ()) else (a3).bind fun u8 => some ((decide (a1 ≤ u8)), ()))).bind fun c9 => some (c9.1, ()) else some (false, ()))).bind fun c10 => some (c10.1)
@[irreducible] def M_layer_behind (a1 : List Int) (a2 : Int) (a3 : List Int) : Option (List Int) :=
  (comp2 a1 (fun x12 => (compM a3 () fun y14 _ => (grd ((sm a2 || sm y14) = true) (some (x12 + (a2 * y14)))).bind fun z_ => some (some z_, ())).bind fun r_ => some r_.1)).bind fun r16 => grd (r16.length ≤ sizeLine) ((M_side_of r16).bind fun r17 => some r17)
@[irreducible] def M_layer_before (a1 : List Int) (a2 : Int) (a3 : List Int) (a4 : List Int) : Option (List Int) :=
  grd (a4.length + 1 < scanBound) ((some (a4 : List Int)).bind fun x18 => (some ([] : List Int)).bind fun x22 => (forS a1 (x22 : (List Int)) fun x28 s27 => (forL a3 (s27 : (List Int)) fun x33 s32 => grd ((sm a2 || sm x33) = true) (if (decide ((x28 + (a2 * x33)) ∈ x18)) = true then inB (grd (s32.length < sizeLine) (some (Tm.bk (s32 ++ [x28])))) else some (Bo.nx s32))).bind (boK (fun s34 => some s34) (fun e : Empty => nomatch e))).bind fun s29 => some s29)
@[irreducible] def M_sum_layers (a1 : List (Int × Str)) (a2 : List (Str × List Int)) : Option (List (List Int)) :=
  (some ([[(0 : Int)]] : List (List Int))).bind fun x37 => (forS a1 (x37 : (List (List Int))) fun x43 s42 => (atI s42 (-(1 : Int))).bind fun x46 => (dget a2 (x43.2)).bind fun x47 => (M_layer_behind x46 (x43.1) x47).bind fun r48 => grd (s42.length < sizeLine) (some (s42 ++ [r48]))).bind fun s44 => some s44
@[irreducible] def M_live_layers (a1 : List (Int × Str)) (a2 : List (Str × List Int)) (a3 : Option Int) (a4 : Option Int) : Option (List (List Int)) :=
  (M_sum_layers a1 a2).bind fun r50 => (some (r50 : List (List Int))).bind fun x51 => (atI x51 (-(1 : Int))).bind fun x53 => (compM x53 () (fun x55 s57 => (M_within_bounds x55 a3 a4).bind fun r59 => if r59 = true then some (some x55, ()) else some (none, ()))).bind fun r60 => (some ([r60.1] : List (List Int))).bind fun x61 => grd (rg2 (-(1 : Int)) ((a1.length : Int) - (1 : Int)) = true) ((forS (rngD ((a1.length : Int) - (1 : Int)) (((a1.length : Int) - (1 : Int)) - (-(1 : Int))).toNat) (x61 : (List (List Int))) fun x67 s66 => (atI a1 x67).bind fun x71 => (some (x71 : (Int × Str))).bind fun x72 => (atI x51 x67).bind fun x74 => (dget a2 (x72.2)).bind fun x75 => (atI s66 (-(1 : Int))).bind fun x76 => (M_layer_before x74 (x72.1) x75 x76).bind fun r77 => grd (s66.length < sizeLine) (some (s66 ++ [r77]))).bind fun s68 => some (s68.reverse))
@[irreducible] def M_l_is_integer (a1 : Int) : Option (Bool) :=
  some (true && (!false))
@[irreducible] def M_l_stream (a1 : List Int) (a2 : Int) : Option (List Int) :=
  (some ((0 : Int) : Int)).bind fun x79 => (if (decide (a2 < (a1.length : Int))) = true then (atI a1 a2).bind fun x83 => (some (x83 : Int)).bind fun x84 => some x84 else some x79).bind fun s82 => grd ((sm s82 || sm (if (decide (((10 : Int) ^ (18 : Int).toNat) ≤ s82)) then 1 else 0 : Int)) = true) (some ([(s82 * (if (decide (((10 : Int) ^ (18 : Int).toNat) ≤ s82)) then 1 else 0 : Int)), (0 : Int), s82]))
@[irreducible] def M_l_next (a1 : List Int) (a2 : Int) : Option (Int × (List Int)) :=
  (atI a1 (1 : Int)).bind fun x86 => (ixN a1.length (1 : Int)).bind fun (_ : Nat) => (atI (a1.set ((ixN a1.length (1 : Int)).getD 0) (x86 + (1 : Int))) (0 : Int)).bind fun x88 => if (decide ((0 : Int) < x88)) = true then (atI (a1.set ((ixN a1.length (1 : Int)).getD 0) (x86 + (1 : Int))) (0 : Int)).bind fun x90 => grd (0 < a2) ((some ((x90 % a2) : Int)).bind fun x91 => (atI (a1.set ((ixN a1.length (1 : Int)).getD 0) (x86 + (1 : Int))) (0 : Int)).bind fun x93 => grd (dv a2 = true) ((ixN (a1.set ((ixN a1.length (1 : Int)).getD 0) (x86 + (1 : Int))).length (0 : Int)).bind fun (_ : Nat) => some (x91, ((a1.set ((ixN a1.length (1 : Int)).getD 0) (x86 + (1 : Int))).set ((ixN (a1.set ((ixN a1.length (1 : Int)).getD 0) (x86 + (1 : Int))).length (0 : Int)).getD 0) (x93 / a2))))) else (atI (a1.set ((ixN a1.length (1 : Int)).getD 0) (x86 + (1 : Int))) (2 : Int)).bind fun x95 => (atI (a1.set ((ixN a1.length (1 : Int)).getD 0) (x86 + (1 : Int))) (1 : Int)).bind fun x96 => grd ((sm (7919 : Int) || sm x96) = true) (grd (0 < (2147483647 : Int)) ((some ((((x95 + ((7919 : Int) * x96)) + (13 : Int)) % (2147483647 : Int)) : Int)).bind fun x97 => grd ((sm x97 || sm (x97 + (48271 : Int))) = true) (grd (0 < (2147483629 : Int)) ((some (((x97 * (x97 + (48271 : Int))) % (2147483629 : Int)) : Int)).bind fun x99 => grd ((sm x99 || sm (x99 + (69621 : Int))) = true) ((atI (a1.set ((ixN a1.length (1 : Int)).getD 0) (x86 + (1 : Int))) (1 : Int)).bind fun x101 => grd ((sm (31 : Int) || sm x101) = true) (grd (0 < (2147483647 : Int)) ((some ((((x99 * (x99 + (69621 : Int))) + ((31 : Int) * x101)) % (2147483647 : Int)) : Int)).bind fun x102 => grd (dv (9 : Int) = true) (grd (0 < a2) (some (((x102 / (9 : Int)) % a2), (a1.set ((ixN a1.length (1 : Int)).getD 0) (x86 + (1 : Int)))))))))))))
@[irreducible] def M_l_names (a1 : List Int) (a2 : Int) : Option ((List Str) × (List Int)) :=
  (M_l_next a1 (3 : Int)).bind fun r104 => if (decide ((r104.1) = (0 : Int))) = true then (M_l_next (r104.2) (8 : Int)).bind fun r106 => (some (r106.1 : Int)).bind fun x107 => (some ([("x" : Str), ("yard" : Str), ("z" : Str), ("u" : Str), ("wide_one" : Str), ("q" : Str), ("pp" : Str), ("t" : Str)] : List Str)).bind fun x109 => grd (rg a2 = true) ((compM (rngL 0 a2.toNat) () (fun x112 s114 => if true = true then grd ((sm x112 || sm (3 : Int)) = true) (grd (0 < (8 : Int)) ((atI x109 (((x112 * (3 : Int)) + x107) % (8 : Int))).bind fun x116 => some (some x116, ()))) else some (none, ()))).bind fun r117 => some (r117.1, r106.2)) else (some (("qwertyuiopasdfghjklzxcvbnm_zyx" : Str) : Str)).bind fun x118 => (some ([] : List Str)).bind fun x120 => grd (rg a2 = true) ((forS (rngL 0 a2.toNat) ((x120, r104.2) : (List Str) × (List Int)) fun x126 s125 => (M_l_next (s125.2) (26 : Int)).bind fun r129 => (some (r129.1 : Int)).bind fun x130 => (M_l_next (r129.2) (3 : Int)).bind fun r132 => (some (((1 : Int) + (r132.1)) : Int)).bind fun x133 => (M_l_next (r132.2) (3 : Int)).bind fun r135 => grd (x118.length ≤ sizeLine) ((some ((cutS x118 (some ((26 : Int) - (r135.1))) (some (26 : Int))) : Str)).bind fun x136 => grd (x118.length ≤ sizeLine) (grd (("7305186429" : Str).length ≤ sizeLine) ((atI ("7305186429" : Str).cps.toList x126).bind fun x138 => grd ((cutS x118 (some x130) (some (x130 + x133))).length + (⟨#[x138]⟩ : Str).length ≤ sizeLine) (grd (((cutS x118 (some x130) (some (x130 + x133))) ++ (⟨#[x138]⟩ : Str)).length + x136.length ≤ sizeLine) (grd ((s125.1).length < sizeLine) (some (((s125.1) ++ [(((cutS x118 (some x130) (some (x130 + x133))) ++ (⟨#[x138]⟩ : Str)) ++ x136)]), r135.2)))))))).bind fun s127 => some (s127.1, s127.2))
@[irreducible] def M_l_pool (a1 : List Int) (a2 : Int) : Option ((List Int) × (List Int)) :=
  (M_l_next a1 (9 : Int)).bind fun r140 => (some ([((r140.1) - (4 : Int))] : List Int)).bind fun x141 => grd (rg (a2 - (1 : Int)) = true) ((forS (rngL 0 (a2 - (1 : Int)).toNat) ((x141, r140.2) : (List Int) × (List Int)) fun x147 s146 => (atI (s146.1) x147).bind fun x158 => (M_l_next (s146.2) (4 : Int)).bind fun r159 => grd (dv (3 : Int) = true) (grd ((sm (2 : Int) || sm ((r159.1) / (3 : Int))) = true) (grd ((s146.1).length < sizeLine) (some (((s146.1) ++ [((x158 + (1 : Int)) + ((2 : Int) * ((r159.1) / (3 : Int))))]), r159.2))))).bind fun s148 => (M_l_next (s148.2) (8 : Int)).bind fun r149 => (atI ([(1 : Int), (1 : Int), (1 : Int), (1 : Int), (1 : Int), (1 : Int), (7 : Int), ((10 : Int) ^ (9 : Int).toNat)]) (r149.1)).bind fun x150 => (some (x150 : Int)).bind fun x151 => (compM (s148.1) () (fun x154 s155 => if true = true then grd ((sm x154 || sm x151) = true) (some (some (x154 * x151), ())) else some (none, ()))).bind fun r157 => some (r157.1, r149.2))
@[irreducible] def M_l_domains (a1 : List Int) (a2 : List Str) (a3 : List Int) (a4 : Int) : Option ((List (Str × List Int)) × (List Int)) :=
  (some ([] : List (Str × List Int))).bind fun x161 => (forS a2 ((x161, a1) : (List (Str × List Int)) × (List Int)) fun x167 s166 => (compM a3 (s166.2) (fun x171 s173 => (M_l_next s173 (4 : Int)).bind fun r175 => if (decide ((0 : Int) < (r175.1))) = true then some (some x171, r175.2) else some (none, r175.2))).bind fun r176 => (some ((cutL (r176.1) none (some a4)) : List Int)).bind fun x177 => (if (decide ((x177.length : Int) = (0 : Int))) = true then (M_l_next (r176.2) (a3.length : Int)).bind fun r183 => (atI a3 (r183.1)).bind fun x184 => (some ([x184] : List Int)).bind fun x185 => some (x185, r183.2) else some (x177, r176.2)).bind fun s180 => (M_l_next (s180.2) (60 : Int)).bind fun r181 => grd ((sm ((s180.1).length : Int) || sm (if (!decide ((r181.1) = (7 : Int))) then 1 else 0 : Int)) = true) (grd ((s166.1).length < sizeLine) (some (((s166.1) ++ [(x167, (cutL (s180.1) none (some (((s180.1).length : Int) * (if (!decide ((r181.1) = (7 : Int))) then 1 else 0 : Int)))))]), r181.2)))).bind fun s168 => some (s168.1, s168.2)
@[irreducible] def M_l_sides (a1 : List (Str × List Int)) : Option (List (Str × List Int)) :=
  (some (([] : List (Str × List Int)) : List (Str × List Int))).bind fun x187 => (forS a1 (x187 : (List (Str × List Int))) fun x193 s192 => grd (s192.length < sizeLine) (some (dput s192 (x193.1) (x193.2)))).bind fun s194 => some s194
@[irreducible] def M_l_is_side (a1 : List Int) : Option (Bool) :=
  ((if (!true) = true then some (true, ()) else (compM a1 () (fun x205 s207 => if true = true then (M_l_is_integer x205).bind fun r209 => some (some r209, ()) else some (none, ()))).bind fun r210 => some ((!((r210.1).all id)), ()))).bind fun c211 => if c211.1 = true then some false else grd (rg ((a1.length : Int) - (1 : Int)) = true) ((compM (rngL 0 ((a1.length : Int) - (1 : Int)).toNat) () (fun x214 s217 => if true = true then (atI a1 x214).bind fun x219 => (atI a1 (x214 + (1 : Int))).bind fun x220 => some (some (decide (x219 < x220)), ()) else some (none, ()))).bind fun r221 => some ((r221.1).all id))
@[irreducible] def M_l_sums (a1 : List Int) (a2 : (Int × Str)) (a3 : List (Str × List Int)) : Option (List Int) :=
  (some ([] : List Int)).bind fun x222 => (forS a1 (x222 : (List Int)) fun x228 s227 => (dget a3 a2.2).bind fun x231 => (forS x231 (s227 : (List Int)) fun x234 s233 => grd ((sm a2.1 || sm x234) = true) (grd (s233.length < sizeLine) (some (s233 ++ [(x228 + (a2.1 * x234))])))).bind fun s235 => some s235).bind fun s229 => some s229
@[irreducible] def M_l_heads (a1 : List (Int × Str)) (a2 : List (Str × List Int)) : Option (List (List Int)) :=
  (some ([[(0 : Int)]] : List (List Int))).bind fun x237 => (forS a1 (x237 : (List (List Int))) fun x243 s242 => (atI s242 (-(1 : Int))).bind fun x246 => (M_l_sums x246 x243 a2).bind fun r247 => grd (s242.length < sizeLine) (some (s242 ++ [r247]))).bind fun s244 => some s244
@[irreducible] def M_l_tails (a1 : List (Int × Str)) (a2 : List (Str × List Int)) : Option (List (List Int)) :=
  (some ([[(0 : Int)]] : List (List Int))).bind fun x249 => grd (rg (a1.length : Int) = true) ((forS (rngL 0 (a1.length : Int).toNat) (x249 : (List (List Int))) fun x253 s252 => (atI s252 (0 : Int)).bind fun x255 => (atI a1 (((a1.length : Int) - (1 : Int)) - x253)).bind fun x256 => (M_l_sums x255 x256 a2).bind fun r257 => grd (([r257]).length + s252.length ≤ sizeLine) ((some ((([r257]) ++ s252) : List (List Int))).bind fun x258 => some x258)).bind fun s254 => some s254)
@[irreducible] def M_l_within (a1 : Int) (a2 : Option Int) (a3 : Option Int) : Option (Bool) :=
  ((if (a2.isNone) = true then some (true, ()) else (a2).bind fun u261 => some ((decide (u261 ≤ a1)), ()))).bind fun c262 => ((if c262.1 = true then ((if (a3.isNone) = true then some (true, ()) else (a3).bind fun u267 => some ((decide (a1 ≤ u267)), ()))).bind fun c268 => some (c268.1, ()) else some (false, ()))).bind fun c269 => some (c269.1)
@[irreducible] def M_l_leads (a1 : Int) (a2 : List Int) (a3 : Option Int) (a4 : Option Int) : Option (Bool) :=
  (forL a2 (() : Unit) fun x272 s271 => (M_l_within (a1 + x272) a3 a4).bind fun r274 => if r274 = true then inB (some (Tm.rt true)) else some (Bo.nx ())).bind (boK (fun s273 => some false) id)
@[irreducible] def M_l_layers_due (a1 : List (List Int)) (a2 : List (List Int)) : Option (Bool × (List (List Int))) :=
  if ((!true) || (!decide ((a1.length : Int) = (a2.length : Int)))) = true then some (false, a1) else grd (rg (a2.length : Int) = true) ((forL (rngL 0 (a2.length : Int).toNat) (a1 : (List (List Int))) fun x279 s278 => (atI s278 x279).bind fun x281 => (M_l_is_side x281).bind fun r282 => ((if (!r282) = true then some (true, ()) else (atI s278 x279).bind fun x285 => (atI a2 x279).bind fun x286 => some ((!decide (x285 = x286)), ()))).bind fun c287 => if c287.1 = true then inB (some (Tm.rt (false, s278))) else (ixN s278.length x279).bind fun m289 => grd ((s278.getD m289 []).length < sizeLine) (some (Bo.nx (s278.set m289 (s278.getD m289 [] ++ [((10 : Int) ^ (25 : Int).toNat)]))))).bind (boK (fun s280 => some (true, s280)) id))
@[irreducible] def M_l_bounds (a1 : List Int) (a2 : Int) : Option ((List (Option Int)) × (List Int)) :=
  (M_l_next a1 (9 : Int)).bind fun r291 => (some (r291.1 : Int)).bind fun x292 => (M_l_next (r291.2) (3 : Int)).bind fun r294 => (some ((a2 - (r294.1)) : Int)).bind fun x295 => (M_l_next (r294.2) (3 : Int)).bind fun r297 => (some ((a2 + (r297.1)) : Int)).bind fun x298 => if (decide (x292 = (0 : Int))) = true then some ([(none : Option Int), (none : Option Int)], r297.2) else if (decide (x292 = (1 : Int))) = true then some ([(none : Option Int), (some x298)], r297.2) else if (decide (x292 = (2 : Int))) = true then some ([(some x295), (none : Option Int)], r297.2) else if (decide (x292 = (3 : Int))) = true then some ([(some a2), (some a2)], r297.2) else if (decide (x292 = (4 : Int))) = true then some ([(some (a2 + (1 : Int))), (some a2)], r297.2) else if (decide (x292 = (5 : Int))) = true then some ([(none : Option Int), (some (a2 - (1 : Int)))], r297.2) else if (decide (x292 = (6 : Int))) = true then some ([(some (a2 + (1 : Int))), (none : Option Int)], r297.2) else if (decide (x292 = (8 : Int))) = true then grd ((sm (5 : Int) || sm ((10 : Int) ^ (19 : Int).toNat)) = true) (grd ((sm (5 : Int) || sm ((10 : Int) ^ (19 : Int).toNat)) = true) (some ([(some (a2 - ((5 : Int) * ((10 : Int) ^ (19 : Int).toNat)))), (some (a2 + ((5 : Int) * ((10 : Int) ^ (19 : Int).toNat))))], r297.2))) else some ([(some x295), (some x298)], r297.2)
@[irreducible] def M_l_live (a1 : List (Int × Str)) (a2 : List (Str × List Int)) (a3 : List (Option Int)) (a4 : Bool) : Option (List (List Int)) :=
  ((if a4 = true then (atI a3 (0 : Int)).bind fun x310 => ((if (x310.isNone) = true then (atI a3 (1 : Int)).bind fun x312 => some ((x312.isNone), ()) else some (false, ()))).bind fun c313 => some (c313.1, ()) else some (false, ()))).bind fun c314 => if c314.1 = true then (M_live_layers a1 a2 (none : Option Int) (none : Option Int)).bind fun r316 => some r316 else ((if a4 = true then (atI a3 (0 : Int)).bind fun x318 => some ((x318.isNone), ()) else some (false, ()))).bind fun c319 => if c319.1 = true then (atI a3 (1 : Int)).bind fun x321 => (M_live_layers a1 a2 (none : Option Int) x321).bind fun r322 => some r322 else ((if a4 = true then (atI a3 (1 : Int)).bind fun x324 => some ((x324.isNone), ()) else some (false, ()))).bind fun c325 => if c325.1 = true then (atI a3 (0 : Int)).bind fun x327 => (M_live_layers a1 a2 x327 (none : Option Int)).bind fun r328 => some r328 else (atI a3 (0 : Int)).bind fun x329 => (atI a3 (1 : Int)).bind fun x330 => (M_live_layers a1 a2 x329 x330).bind fun r331 => some r331
@[irreducible] def M_l_choice (a1 : List Int) (a2 : List (Int × Str)) (a3 : List (Str × List Int)) (a4 : List Int) : Option (Int × (List Int)) :=
  (some ((0 : Int) : Int)).bind fun x332 => (forS a2 ((x332, a1) : Int × (List Int)) fun x336 s335 => (dget a3 (x336.2)).bind fun x338 => (some (x338 : List Int)).bind fun x339 => (if (decide ((x339.length : Int) = (0 : Int))) = true then (some (a4 : List Int)).bind fun x347 => some x347 else some x339).bind fun s342 => (M_l_next (s335.2) (s342.length : Int)).bind fun r343 => (atI s342 (r343.1)).bind fun x344 => grd ((sm (x336.1) || sm x344) = true) ((some (((s335.1) + ((x336.1) * x344)) : Int)).bind fun x345 => some (x345, r343.2))).bind fun s337 => some (s337.1, s337.2)
@[irreducible] def M_law (a1 : List Int) : Option (Bool) :=
  (M_l_stream a1 (0 : Int)).bind fun r349 => (some (r349 : List Int)).bind fun x350 => (M_l_next x350 (5 : Int)).bind fun r354 => grd (0 < (5 : Int)) ((some ((((r354.1) + (3 : Int)) % (5 : Int)) : Int)).bind fun x355 => (some ((3 : Int) : Int)).bind fun x357 => (M_l_next (r354.2) (8 : Int)).bind fun r359 => (if (decide ((r359.1) = (5 : Int))) = true then (M_l_next (r359.2) (4 : Int)).bind fun r487 => (some (((5 : Int) + (r487.1)) : Int)).bind fun x488 => (some ((2 : Int) : Int)).bind fun x490 => some (x488, x490, r487.2) else some (x355, x357, r359.2)).bind fun s361 => (M_l_next (s361.2.2) (4 : Int)).bind fun r362 => (M_l_pool (r362.2) ((2 : Int) + (r362.1))).bind fun r363 => (some (r363.1 : List Int)).bind fun x364 => (M_l_next (r363.2) (8 : Int)).bind fun r366 => (if (decide ((r366.1) = (5 : Int))) = true then grd (([(-((10 : Int) ^ (12 : Int).toNat))]).length + x364.length ≤ sizeLine) (grd ((([(-((10 : Int) ^ (12 : Int).toNat))]) ++ x364).length + ([((10 : Int) ^ (12 : Int).toNat)]).length ≤ sizeLine) ((some (((([(-((10 : Int) ^ (12 : Int).toNat))]) ++ x364) ++ ([((10 : Int) ^ (12 : Int).toNat)])) : List Int)).bind fun x485 => some (x485, r366.2))) else some (x364, r366.2)).bind fun s368 => (M_l_next (s368.2) (8 : Int)).bind fun r369 => (atI ([(1 : Int), (1 : Int), (1 : Int), (1 : Int), (1 : Int), (1 : Int), (1 : Int), (333333 : Int)]) (r369.1)).bind fun x370 => (some (x370 : Int)).bind fun x371 => (M_l_stream a1 (1 : Int)).bind fun r373 => (M_l_names r373 (s361.1)).bind fun r375 => (some (r375.1 : List Str)).bind fun x376 => (M_l_stream a1 (2 : Int)).bind fun r378 => (some (r378 : List Int)).bind fun x379 => (M_l_domains x379 x376 (s368.1) (s361.2.1)).bind fun r383 => (M_l_sides (r383.1)).bind fun r384 => (some (r384 : List (Str × List Int))).bind fun x385 => ((if (decide ((0 : Int) < (s361.1))) = true then (M_l_next (r383.2) (8 : Int)).bind fun r390 => some ((decide ((r390.1) = (5 : Int))), r390.2) else some (false, r383.2))).bind fun c391 => (if c391.1 = true then (M_l_next (c391.2) (s361.1)).bind fun r482 => (atI x376 (r482.1)).bind fun x483 => grd (x385.length < sizeLine) (some ((dput x385 x483 ([])), r482.2)) else some (x385, c391.2)).bind fun s393 => (M_l_stream a1 (3 : Int)).bind fun r394 => (some (r394 : List Int)).bind fun x395 => (compM x376 x395 (fun x400 s402 => if true = true then (M_l_next s402 (7 : Int)).bind fun r404 => grd ((sm ((r404.1) - (3 : Int)) || sm x371) = true) (some (some ((((r404.1) - (3 : Int)) * x371), x400), r404.2)) else some (none, s402))).bind fun r405 => (some (r405.1 : List (Int × Str))).bind fun x406 => (M_l_choice (r405.2) x406 (s393.1) (s368.1)).bind fun r410 => (M_l_bounds (r410.2) (r410.1)).bind fun r411 => (some (r411.1 : List (Option Int))).bind fun x412 => (M_l_next (r411.2) (2 : Int)).bind fun r414 => (some ((decide ((r414.1) = (0 : Int))) : Bool)).bind fun x415 => (M_l_heads x406 (s393.1)).bind fun r417 => (compM r417 () (fun x419 s420 => if true = true then grd (x419.length + 1 < scanBound) (some (some (sideL x419), ())) else some (none, ()))).bind fun r422 => (some (r422.1 : List (List Int))).bind fun x423 => (M_l_tails x406 (s393.1)).bind fun r427 => (some (r427 : List (List Int))).bind fun x428 => (some ([] : List (List Int))).bind fun x430 => grd (rg (x423.length : Int) = true) ((forS (rngL 0 (x423.length : Int).toNat) (x430 : (List (List Int))) fun x436 s435 => (atI x423 x436).bind fun x467 => (compM x467 () (fun x469 s474 => (atI x428 x436).bind fun x476 => (atI x412 (0 : Int)).bind fun x477 => (atI x412 (1 : Int)).bind fun x478 => (M_l_leads x469 x476 x477 x478).bind fun r479 => if r479 = true then some (some x469, ()) else some (none, ()))).bind fun r480 => grd (s435.length < sizeLine) (some (s435 ++ [r480.1]))).bind fun s437 => (some (x406 : List (Int × Str))).bind fun x438 => (M_l_next (r414.2) ((s361.1) + (1 : Int))).bind fun r440 => (some (r440.1 : Int)).bind fun x441 => (some (([] : List (Str × List Int)) : List (Str × List Int))).bind fun x443 => grd ((cutL x376 (some x441) none).length + (cutL x376 none (some x441)).length ≤ sizeLine) ((forS ((cutL x376 (some x441) none) ++ (cutL x376 none (some x441))) (x443 : (List (Str × List Int))) fun x449 s448 => (dget (s393.1) x449).bind fun x465 => grd (s448.length < sizeLine) (some (dput s448 x449 x465))).bind fun s450 => grd (rg (2 : Int) = true) ((forL (rngL 0 (2 : Int).toNat) (() : Unit) fun x453 s452 => (M_sum_layers x438 s450).bind fun r457 => (M_l_layers_due r457 x423).bind fun r459 => if (!(r459.1)) = true then inB (some (Tm.rt false)) else (M_l_live x438 s450 x412 x415).bind fun r461 => (M_l_layers_due r461 s437).bind fun r463 => if (!(r463.1)) = true then inB (some (Tm.rt false)) else some (Bo.nx ())).bind (boK (fun s454 => grd (okG (dgL (dgT2 dgInt dgStr)) x438 x406 = true) (((if (decide (x438 = x406)) = true then ((if (deq s450 (s393.1)) = true then grd ((cutL x376 (some x441) none).length + (cutL x376 none (some x441)).length ≤ sizeLine) (grd (okG (dgL dgStr) (s450.map Prod.fst) ((cutL x376 (some x441) none) ++ (cutL x376 none (some x441))) = true) (some ((decide ((s450.map Prod.fst) = ((cutL x376 (some x441) none) ++ (cutL x376 none (some x441))))), ()))) else some (false, ()))).bind fun c455 => some (c455.1, ()) else some (false, ()))).bind fun c456 => some (c456.1))) id)))))
end My
end
section
set_option Elab.async false
set_option linter.all false
set_option maxRecDepth 100000
set_option maxHeartbeats 4000000
namespace My
open PySem PySem.Spec PyProof.Rows L2 L3
def top (i : Nat) : Stmt := PySem.Challenge.pw_curbdesk_k10_live_layers.main.body.getD i (.Pass ⟨0, 0, 0, 0⟩)
abbrev FnP (K : PySem.W.Frag) (x : Str) (st : Stmt) (f : Addr) (fd : FuncData) : Prop := FunD K x x (defArgs st) (defBody st) (defScope st) [] [] f fd
structure Ev (K : PySem.W.Frag) (mg : Str → Option Value) : Prop where
  f_side_of : ∃ (f : Addr) (fd : FuncData), FnP K "side_of" (top 1) f fd ∧ mg "side_of" = some (.ref f)
  f_within_bounds : ∃ (f : Addr) (fd : FuncData), FnP K "within_bounds" (top 3) f fd ∧ mg "within_bounds" = some (.ref f)
  f_layer_behind : ∃ (f : Addr) (fd : FuncData), FnP K "layer_behind" (top 4) f fd ∧ mg "layer_behind" = some (.ref f)
  f_layer_before : ∃ (f : Addr) (fd : FuncData), FnP K "layer_before" (top 5) f fd ∧ mg "layer_before" = some (.ref f)
  f_sum_layers : ∃ (f : Addr) (fd : FuncData), FnP K "sum_layers" (top 6) f fd ∧ mg "sum_layers" = some (.ref f)
  f_live_layers : ∃ (f : Addr) (fd : FuncData), FunD K "live_layers" "live_layers" (defArgs (top 7)) (defBody (top 7)) (defScope (top 7)) [] [("low", .non), ("high", .non)] f fd ∧ mg "live_layers" = some (.ref f)
  f_l_is_integer : ∃ (f : Addr) (fd : FuncData), FnP K "_law_is_integer" (top 9) f fd ∧ mg "_law_is_integer" = some (.ref f)
  f_l_stream : ∃ (f : Addr) (fd : FuncData), FnP K "_law_stream" (top 10) f fd ∧ mg "_law_stream" = some (.ref f)
  f_l_next : ∃ (f : Addr) (fd : FuncData), FnP K "_law_next" (top 11) f fd ∧ mg "_law_next" = some (.ref f)
  f_l_names : ∃ (f : Addr) (fd : FuncData), FnP K "_law_names" (top 12) f fd ∧ mg "_law_names" = some (.ref f)
  f_l_pool : ∃ (f : Addr) (fd : FuncData), FnP K "_law_pool" (top 13) f fd ∧ mg "_law_pool" = some (.ref f)
  f_l_domains : ∃ (f : Addr) (fd : FuncData), FnP K "_law_domains" (top 14) f fd ∧ mg "_law_domains" = some (.ref f)
  f_l_sides : ∃ (f : Addr) (fd : FuncData), FnP K "_law_sides" (top 15) f fd ∧ mg "_law_sides" = some (.ref f)
  f_l_is_side : ∃ (f : Addr) (fd : FuncData), FnP K "_law_is_side" (top 16) f fd ∧ mg "_law_is_side" = some (.ref f)
  f_l_sums : ∃ (f : Addr) (fd : FuncData), FnP K "_law_sums" (top 17) f fd ∧ mg "_law_sums" = some (.ref f)
  f_l_heads : ∃ (f : Addr) (fd : FuncData), FnP K "_law_heads" (top 18) f fd ∧ mg "_law_heads" = some (.ref f)
  f_l_tails : ∃ (f : Addr) (fd : FuncData), FnP K "_law_tails" (top 19) f fd ∧ mg "_law_tails" = some (.ref f)
  f_l_within : ∃ (f : Addr) (fd : FuncData), FnP K "_law_within" (top 20) f fd ∧ mg "_law_within" = some (.ref f)
  f_l_leads : ∃ (f : Addr) (fd : FuncData), FnP K "_law_leads" (top 21) f fd ∧ mg "_law_leads" = some (.ref f)
  f_l_layers_due : ∃ (f : Addr) (fd : FuncData), FnP K "_law_layers_due" (top 22) f fd ∧ mg "_law_layers_due" = some (.ref f)
  f_l_bounds : ∃ (f : Addr) (fd : FuncData), FnP K "_law_bounds" (top 23) f fd ∧ mg "_law_bounds" = some (.ref f)
  f_l_live : ∃ (f : Addr) (fd : FuncData), FnP K "_law_live" (top 24) f fd ∧ mg "_law_live" = some (.ref f)
  f_l_choice : ∃ (f : Addr) (fd : FuncData), FnP K "_law_choice" (top 25) f fd ∧ mg "_law_choice" = some (.ref f)
  m_all : mg "all" = none
  m_bool : mg "bool" = none
  m_int : mg "int" = none
  m_isinstance : mg "isinstance" = none
  m_len : mg "len" = none
  m_list : mg "list" = none
  m_range : mg "range" = none
  m_set : mg "set" = none
  m_sorted : mg "sorted" = none
end My
end
section
set_option Elab.async false
set_option linter.all false
set_option maxRecDepth 100000
set_option maxHeartbeats 4000000
set_option pp.maxSteps 200
namespace My
open PySem PySem.Spec PyProof.Rows L2 L3
section
variable {P : Program} {w : World} {K : PySem.W.Frag} {mg : Str → Option Value} {base : Heap}
theorem sc_side_of : FnScope ["values"] ["values"] (defScope (top 1)) := ⟨rfl, rfl, rfl, by decide +kernel, rfl, by decide +kernel, by decide +kernel⟩
theorem ok_side_of {f : Addr} {fd : FuncData} (C : Ev K mg) (FD : FnP K "side_of" (top 1) f fd)   : FnOk P w K mg base CX0 1 f fd ["values"] (Sp_F_o (pL pInt) M_side_of (oL pInt)) := by
  have m_set := C.m_set
  have m_sorted := C.m_sorted
  refine fn_F_o FD sc_side_of rfl fun cdv A outer s H E hr  a1 => ?_
  exact s_is (s_T (T := grd (a1.length + 1 < scanBound) (some (sideL a1))) (s_retO (P := (fun _ => [])) (Ro := (oL pInt)) (ι := id) (rv := fun (b : Unit) => (sideL a1)) (fun _ _ _ h => h) (o_kd (E := fun (b_ : Unit) => (oL pInt) (sideL a1)) (x_sortedSet m_sorted (x_set m_set (x_var (p := (pL pInt) a1) 0) (fun _ => rdF)))) (fun _ => List.Sublist.refl _))) (by unfold M_side_of; rfl)
end
end My
end
section
set_option Elab.async false
set_option linter.all false
set_option maxRecDepth 100000
set_option maxHeartbeats 4000000
set_option pp.maxSteps 200
namespace My
open PySem PySem.Spec PyProof.Rows L2 L3
section
variable {P : Program} {w : World} {K : PySem.W.Frag} {mg : Str → Option Value} {base : Heap}
theorem sc_within_bounds : FnScope ["total", "low", "high"] ["total", "low", "high"] (defScope (top 3)) := ⟨rfl, rfl, rfl, by decide +kernel, rfl, by decide +kernel, by decide +kernel⟩
theorem ok_within_bounds {f : Addr} {fd : FuncData} (C : Ev K mg) (FD : FnP K "within_bounds" (top 3) f fd)   : FnOk P w K mg base CX0 1 f fd ["total", "low", "high"] (Sp_FFF_f pInt (pOp pInt) (pOp pInt) M_within_bounds pBl) := by
  refine fn_FFF_f FD sc_within_bounds rfl fun cdv A outer s H E hr  a1 a2 a3 => ?_
  exact s_is (s_T (T := ((if (a2.isNone) = true then some (true, ()) else (a2).bind fun u2 => some ((decide (u2 ≤ a1)), ()))).bind fun c3 => ((if c3.1 = true then ((if (a3.isNone) = true then some (true, ()) else (a3).bind fun u8 => some ((decide (a1 ≤ u8)), ()))).bind fun c9 => some (c9.1, ()) else some (false, ()))).bind fun c10 => some (c10.1)) (s_ret (P := (fun _ => [])) (Rp := pBl) (ι := id) (rv := fun (b : ((Unit × (Bool × Unit)) × (Bool × Unit))) => b.2.1) (fun _ _ _ h => h) (x_kd (x_kd (E := fun (b_ : ((Unit × (Bool × Unit)) × (Bool × Unit))) => pBl b_.2.1) (v_andM (ΔS := fun (b_ : (Unit × (Bool × Unit))) (s_ : Unit) => []) (s1 := fun (b_ : (Unit × (Bool × Unit))) => ()) (s2 := fun (b_ : (Unit × (Bool × Unit))) (c_ : (Unit × (Bool × Unit))) => ()) (x_kd (E := fun (b_ : (Unit × (Bool × Unit))) => pBl b_.2.1) (v_orM (ΔS := fun (b_ : Unit) (s_ : Unit) => []) (s1 := fun (b_ : Unit) => ()) (s2 := fun (b_ : Unit) (c_ : ((Unit × Int) × Unit)) => ()) (x_kd (E := fun (b_ : Unit) => pBl (a2.isNone)) (x_isN nnInt (x_var (p := (pOp pInt) a2) 1))) (fun _ => v_one (x_kd (E := fun (b_ : ((Unit × Int) × Unit)) => pBl (decide (b_.1.2 ≤ a1))) (x_le (x_some (Ee := pInt) (x_var (p := (pOp pInt) a2) 1)) (fun _ => x_var (p := pInt a1) 0)))) (fun _ => rfl) (fun _ _ => rfl))) (fun _ => v_one (x_kd (E := fun (b_ : (Unit × (Bool × Unit))) => pBl b_.2.1) (v_orM (ΔS := fun (b_ : Unit) (s_ : Unit) => []) (s1 := fun (b_ : Unit) => ()) (s2 := fun (b_ : Unit) (c_ : (Unit × (Unit × Int))) => ()) (x_kd (E := fun (b_ : Unit) => pBl (a3.isNone)) (x_isN nnInt (x_var (p := (pOp pInt) a3) 2))) (fun _ => v_one (x_kd (E := fun (b_ : (Unit × (Unit × Int))) => pBl (decide (a1 ≤ b_.2.2))) (x_le (x_var (p := pInt a1) 0) (fun _ => x_some (Ee := pInt) (x_var (p := (pOp pInt) a3) 2))))) (fun _ => rfl) (fun _ _ => rfl)))) (fun _ => rfl) (fun _ _ => rfl)))) (fun _ => List.Sublist.refl _))) (by unfold M_within_bounds; rfl)
end
end My
end
section
set_option Elab.async false
set_option linter.all false
set_option maxRecDepth 100000
set_option maxHeartbeats 4000000
set_option pp.maxSteps 200
namespace My
open PySem PySem.Spec PyProof.Rows L2 L3
section
variable {P : Program} {w : World} {K : PySem.W.Frag} {mg : Str → Option Value} {base : Heap}
theorem sc_layer_behind : FnScope ["layer", "coefficient", "side", "total", "value"] ["layer", "coefficient", "side"] (defScope (top 4)) := ⟨rfl, rfl, rfl, by decide +kernel, rfl, by decide +kernel, by decide +kernel⟩
theorem ok_layer_behind {f : Addr} {fd : FuncData} (C : Ev K mg) (FD : FnP K "layer_behind" (top 4) f fd)   : FnOk P w K mg base CX0 2 f fd ["layer", "coefficient", "side"] (Sp_FFF_o (pL pInt) pInt (pL pInt) M_layer_behind (oL pInt)) := by
  obtain ⟨f_side_of, fd_side_of, F_side_of, g_side_of⟩ := C.f_side_of
  have k_side_of := ok_side_of (P := P) (w := w) (base := base) C F_side_of
  have b_side_of : Binds K fd_side_of ["values"] [] := F_side_of.bindsN fun _ _ _ _ _ _ us hl => match us, hl with | [_], _ => rfl
  refine fn_FFF_o FD sc_layer_behind rfl fun cdv A outer s H E hr  a1 a2 a3 => ?_
  exact s_is (s_T (T := (comp2 a1 (fun x12 => (compM a3 () fun y14 _ => (grd ((sm a2 || sm y14) = true) (some (x12 + (a2 * y14)))).bind fun z_ => some (some z_, ())).bind fun r_ => some r_.1)).bind fun r16 => grd (r16.length ≤ sizeLine) ((M_side_of r16).bind fun r17 => some r17)) (s_retO (P := (fun _ => [])) (Ro := (oL pInt)) (ι := id) (rv := fun (b : ((Unit × (List Int)) × (List Int))) => b.2) (fun _ _ _ h => h) (o_kd (o_kd (E := fun (b_ : ((Unit × (List Int)) × (List Int))) => (oL pInt) b_.2) (x_F_o (kk := 1) (E1 := (pL pInt)) k_side_of (hr.mono (by decide)) g_side_of F_side_of.kp b_side_of (x_kd (E := fun (b_ : (Unit × (List Int))) => (pL pInt) b_.2) (x_frz (o_kd (E := fun (b_ : (Unit × (List Int))) => (oL pInt) b_.2) (x_lc2 (own := [("total", 3), ("value", 4)]) (vs1 := [4]) (C := fun (b_ : Unit) => []) (f := fun (b_ : Unit) (x_ : Int) => (compM a3 () fun y14 _ => (grd ((sm a2 || sm y14) = true) (some (x_ + (a2 * y14)))).bind fun z_ => some (some z_, ())).bind fun r_ => some r_.1) (ys := fun (b_ : Unit) (x_ : Int) (c_ : Unit) => a3) (h := fun (b_ : Unit) (x_ : Int) (c_ : Unit) (y_ : Int) => grd ((sm a2 || sm y_) = true) (some (x_ + (a2 * y_)))) (e := fun (b_ : Unit) (x_ : Int) (c_ : Unit) (y_ : Int) (d_ : (Unit × (Unit × Unit))) => (x_ + (a2 * y_))) (Ex := pInt) (Ex2 := pInt) (Ee := pInt) (δ := Int) sc_layer_behind.nd (i_list (x_var (p := (pL pInt) a1) 0)) (blkOk_by (own := [("total", 3), ("value", 4)]) (N := ["layer", "coefficient", "side", "total", "value"]) (sc := defScope (top 4)) (by decide +kernel)) (by decide) (fun _ _ _ _ _ => pg_name (i := 3) sc_layer_behind.nd rfl (by first | exact .inl rfl | exact .inr rfl)) (tw_in 3 (by decide)) (fun _ _ _ _ _ => pg_name (i := 4) sc_layer_behind.nd rfl (by first | exact .inl rfl | exact .inr rfl)) (tw_in 4 (by decide)) (by exact fun q15 _ _ _ _ _ b11 x12 => i_T (i_list (x_var (p := (pL pInt) a3) 2)) (by rfl)) (by exact fun q15 _ _ _ _ _ b11 x12 b13 y14 => x_T (x_kd (E := fun (b_ : (Unit × (Unit × Unit))) => pInt (x12 + (a2 * y14))) (x_add (x_var (p := pInt x12) 3) (fun _ => x_kd (E := fun (b_ : (Unit × Unit)) => pInt (a2 * y14)) (x_mul (x_var (p := pInt a2) 1) (fun _ => x_var (p := pInt y14) 4))))) (by rfl))))))))) (fun _ => List.Sublist.refl _))) (by unfold M_layer_behind; rfl)
end
end My
end
section
set_option Elab.async false
set_option linter.all false
set_option maxRecDepth 100000
set_option maxHeartbeats 4000000
set_option pp.maxSteps 200
namespace My
open PySem PySem.Spec PyProof.Rows L2 L3
section
variable {P : Program} {w : World} {K : PySem.W.Frag} {mg : Str → Option Value} {base : Heap}
theorem sc_layer_before : FnScope ["layer", "coefficient", "side", "following", "goals", "result", "total", "value"] ["layer", "coefficient", "side", "following"] (defScope (top 5)) := ⟨rfl, rfl, rfl, by decide +kernel, rfl, by decide +kernel, by decide +kernel⟩
theorem ok_layer_before {f : Addr} {fd : FuncData} (C : Ev K mg) (FD : FnP K "layer_before" (top 5) f fd)   : FnOk P w K mg base CX0 1 f fd ["layer", "coefficient", "side", "following"] (Sp_FFFF_o (pL pInt) pInt (pL pInt) (pL pInt) M_layer_before (oL pInt)) := by
  have m_set := C.m_set
  refine fn_FFFF_o FD sc_layer_before rfl fun cdv A outer s H E hr  a1 a2 a3 a4 => ?_
  exact s_is (s_T (T := grd (a4.length + 1 < scanBound) ((some (a4 : List Int)).bind fun x18 => (some ([] : List Int)).bind fun x22 => (forS a1 (x22 : (List Int)) fun x28 s27 => (forL a3 (s27 : (List Int)) fun x33 s32 => grd ((sm a2 || sm x33) = true) (if (decide ((x28 + (a2 * x33)) ∈ x18)) = true then inB (grd (s32.length < sizeLine) (some (Tm.bk (s32 ++ [x28])))) else some (Bo.nx s32))).bind (boK (fun s34 => some s34) (fun e : Empty => nomatch e))).bind fun s29 => some s29)) (s_letO (i := 4) (oSet w) sc_layer_before.nd (x_set m_set (x_var (p := (pL pInt) a4) 3) (fun _ => rdF)) fun (b19 : Unit) x18 v21 => s_T (T := (some ([] : List Int)).bind fun x22 => (forS a1 (x22 : (List Int)) fun x28 s27 => (forL a3 (s27 : (List Int)) fun x33 s32 => grd ((sm a2 || sm x33) = true) (if (decide ((x28 + (a2 * x33)) ∈ x18)) = true then inB (grd (s32.length < sizeLine) (some (Tm.bk (s32 ++ [x28])))) else some (Bo.nx s32))).bind (boK (fun s34 => some s34) (fun e : Empty => nomatch e))).bind fun s29 => some s29) (s_letO (i := 5) (oL pInt) sc_layer_before.nd (o_kd (E := fun (b_ : Unit) => (oL pInt) ([])) (x_nil pInt)) fun (b23 : Unit) x22 v25 => s_T (T := (forS a1 (x22 : (List Int)) fun x28 s27 => (forL a3 (s27 : (List Int)) fun x33 s32 => grd ((sm a2 || sm x33) = true) (if (decide ((x28 + (a2 * x33)) ∈ x18)) = true then inB (grd (s32.length < sizeLine) (some (Tm.bk (s32 ++ [x28])))) else some (Bo.nx s32))).bind (boK (fun s34 => some s34) (fun e : Empty => nomatch e))).bind fun s29 => some s29) (s_forS PassesOwn.never (fun (b_ : Unit) (s_ : (List Int)) => ([some ((pL pInt) a1), some (pInt a2), some ((pL pInt) a3), some ((pL pInt) a4), some (pV v21), some (pV v25), none, none], [⟨v25, (oL pInt) s_, none⟩, ⟨v21, (oSet w) x18, none⟩])) (fun (b_ : Unit) => x22) (i_list (x_var (p := (pL pInt) a1) 0)) (pg_name (i := 6) sc_layer_before.nd rfl (by first | exact .inl rfl | exact .inr rfl)) (tg_name 6) (fun _ => ⟨rfl, rfl, rfl, rfl, rfl, rfl, trivial⟩) (fun _ => List.Sublist.refl _) (fun b26 x28 s27 => s_T (T := (forL a3 (s27 : (List Int)) fun x33 s32 => grd ((sm a2 || sm x33) = true) (if (decide ((x28 + (a2 * x33)) ∈ x18)) = true then inB (grd (s32.length < sizeLine) (some (Tm.bk (s32 ++ [x28])))) else some (Bo.nx s32))).bind (boK (fun s34 => some s34) (fun e : Empty => nomatch e))) (s_for PassesOwn.never (fun (b_ : Unit) (s_ : (List Int)) => ([some ((pL pInt) a1), some (pInt a2), some ((pL pInt) a3), some ((pL pInt) a4), some (pV v21), some (pV v25), some (pInt x28), none], [⟨v25, (oL pInt) s_, none⟩, ⟨v21, (oSet w) x18, none⟩])) (fun (b_ : Unit) => s27) (ι := (fun e : Empty => nomatch e)) (R := (fun (_ : Empty) _ => False)) (i_list (x_var (p := (pL pInt) a3) 2)) (pg_name (i := 7) sc_layer_before.nd rfl (by first | exact .inl rfl | exact .inr rfl)) (tg_name 7) (fun _ => ⟨rfl, rfl, rfl, rfl, rfl, rfl, rfl, trivial⟩) (fun _ => List.Sublist.refl _) (fun b31 x33 s32 => s_T (T := grd ((sm a2 || sm x33) = true) (if (decide ((x28 + (a2 * x33)) ∈ x18)) = true then inB (grd (s32.length < sizeLine) (some (Tm.bk (s32 ++ [x28])))) else some (Bo.nx s32))) (s_ifB ins_T (t_kd (c := fun (b_ : ((Unit × (Unit × Unit)) × Unit)) => (decide ((x28 + (a2 * x33)) ∈ x18))) (t_inSet 1 (x_kd (E := fun (b_ : (Unit × (Unit × Unit))) => pInt (x28 + (a2 * x33))) (x_add (x_var (p := pInt x28) 6) (fun _ => x_kd (E := fun (b_ : (Unit × Unit)) => pInt (a2 * x33)) (x_mul (x_var (p := pInt a2) 1) (fun _ => x_var (p := pInt x33) 7))))) (fun _ => x_var (p := pV v21) 4) (fun _ _ => rfl))) (fun (b35 : ((Unit × (Unit × Unit)) × Unit)) => s_T (T := grd (s32.length < sizeLine) (some (Tm.bk (s32 ++ [x28])))) (s_expr (x_app 0 (x_var (p := pV v25) 5) (fun _ => x_var (p := pInt x28) 6) (fun _ => rfl) (fun _ _ => rfl)) fun (b36 : (Unit × Unit)) => s_T (T := some (Tm.bk (s32 ++ [x28]))) (s_brk (s32 ++ [x28]) ⟨rfl, rfl, rfl, rfl, rfl, rfl, rfl, trivial⟩ (List.Sublist.refl _)))) fun (b35 : ((Unit × (Unit × Unit)) × Unit)) => s_endB s32 ⟨rfl, rfl, rfl, rfl, rfl, rfl, rfl, trivial⟩ (List.Sublist.refl _))) (fun b31 s34 => s_end s34 rfl ⟨rfl, rfl, rfl, rfl, rfl, rfl, trivial⟩ (List.Sublist.refl _)) (fun _ r => nomatch r))) fun b26 s29 => s_T (T := some s29) (s_retV 0 (P := (fun _ => [])) (Ro := (oL pInt)) (ι := id) (rv := fun _ => s29) (fun _ _ _ h => h) (x_var (p := pV v25) 5) (fun _ => rfl) (fun _ => .cons _ (.slnil))))))) (by unfold M_layer_before; rfl)
end
end My
end
section
set_option Elab.async false
set_option linter.all false
set_option maxRecDepth 100000
set_option maxHeartbeats 4000000
set_option pp.maxSteps 200
namespace My
open PySem PySem.Spec PyProof.Rows L2 L3
section
variable {P : Program} {w : World} {K : PySem.W.Frag} {mg : Str → Option Value} {base : Heap}
theorem sc_sum_layers : FnScope ["terms", "box", "layers", "coefficient", "name"] ["terms", "box"] (defScope (top 6)) := ⟨rfl, rfl, rfl, by decide +kernel, rfl, by decide +kernel, by decide +kernel⟩
theorem ok_sum_layers {f : Addr} {fd : FuncData} (C : Ev K mg) (FD : FnP K "sum_layers" (top 6) f fd)   : FnOk P w K mg base CX0 3 f fd ["terms", "box"] (Sp_FF_o (pL (pT2 pInt pStr)) (pM (κ := Str) (pL pInt)) M_sum_layers (oLO (oL pInt))) := by
  obtain ⟨f_layer_behind, fd_layer_behind, F_layer_behind, g_layer_behind⟩ := C.f_layer_behind
  have k_layer_behind := ok_layer_behind (P := P) (w := w) (base := base) C F_layer_behind
  have b_layer_behind : Binds K fd_layer_behind ["layer", "coefficient", "side"] [] := F_layer_behind.bindsN fun _ _ _ _ _ _ us hl => match us, hl with | [_, _, _], _ => rfl
  refine fn_FF_o FD sc_sum_layers rfl fun cdv A outer s H E hr  a1 a2 => ?_
  exact s_is (s_T (T := (some ([[(0 : Int)]] : List (List Int))).bind fun x37 => (forS a1 (x37 : (List (List Int))) fun x43 s42 => (atI s42 (-(1 : Int))).bind fun x46 => (dget a2 (x43.2)).bind fun x47 => (M_layer_behind x46 (x43.1) x47).bind fun r48 => grd (s42.length < sizeLine) (some (s42 ++ [r48]))).bind fun s44 => some s44) (s_letO (i := 2) (oLO (oL pInt)) sc_sum_layers.nd (o_kd (E := fun (b_ : ((Unit × Unit) × Unit)) => (oLO (oL pInt)) ([[(0 : Int)]])) (x_dispO (D := (oL pInt)) (ao_cons (o_kd (E := fun (b_ : (Unit × Unit)) => (oL pInt) ([(0 : Int)])) (x_disp pInt (fun _ => [_]) (a_cons (x_int (i := 0)) (fun _ => a_nil)) (fun _ => rfl) (fun _ => by simp))) (fun _ _ => ao_nil)) (fun _ => by simp))) fun (b38 : ((Unit × Unit) × Unit)) x37 v40 => s_T (T := (forS a1 (x37 : (List (List Int))) fun x43 s42 => (atI s42 (-(1 : Int))).bind fun x46 => (dget a2 (x43.2)).bind fun x47 => (M_layer_behind x46 (x43.1) x47).bind fun r48 => grd (s42.length < sizeLine) (some (s42 ++ [r48]))).bind fun s44 => some s44) (s_forS PassesOwn.never (fun (b_ : Unit) (s_ : (List (List Int))) => ([some ((pL (pT2 pInt pStr)) a1), some ((pM (κ := Str) (pL pInt)) a2), some (pV v40), none, none], [⟨v40, (oLO (oL pInt)) s_, none⟩])) (fun (b_ : Unit) => x37) (i_list (x_var (p := (pL (pT2 pInt pStr)) a1) 0)) (pg_tup rfl (pgs_cons (pg_name (i := 3) sc_sum_layers.nd rfl (by first | exact .inl rfl | exact .inr rfl)) (pgs_cons (pg_name (i := 4) sc_sum_layers.nd rfl (by first | exact .inl rfl | exact .inr rfl)) pgs_nil))) (tg_pair 3 4) (fun _ => ⟨rfl, rfl, rfl, trivial⟩) (fun _ => List.Sublist.refl _) (fun b41 x43 s42 => s_T (T := (atI s42 (-(1 : Int))).bind fun x46 => (dget a2 (x43.2)).bind fun x47 => (M_layer_behind x46 (x43.1) x47).bind fun r48 => grd (s42.length < sizeLine) (some (s42 ++ [r48]))) (s_expr (x_appO 0 (x_var (p := pV v40) 2) (fun _ => o_kd (E := fun (b_ : ((((Unit × Unit) × (List Int)) × (Unit × ((Unit × Unit) × (List Int)))) × (List Int))) => (oL pInt) b_.2) (o_lockG (d := (oLO (oL pInt)) s42) 0 2 (foL feI) (x_FFF_o (kk := 2) (E1 := (pL pInt)) (E2 := pInt) (E3 := (pL pInt)) k_layer_behind (hr.mono (by decide)) g_layer_behind F_layer_behind.kp b_layer_behind (x_kd (E := fun (b_ : ((Unit × Unit) × (List Int))) => (pL pInt) b_.2) (x_ixL (Ee := (pL pInt)) (x_var (p := (pL (pL pInt)) s42) 2) (fun _ => x_kd (E := fun (b_ : Unit) => pInt (-(1 : Int))) (x_neg (x_int (i := 1)))) (fun _ _ => rdF))) (fun _ => x_var (p := pInt x43.1) 3) (fun _ _ => x_kd (E := fun (b_ : ((Unit × Unit) × (List Int))) => (pL pInt) b_.2) (x_dget (κ := Str) (Ee := (pL pInt)) hr.units (x_var (p := (pM (κ := Str) (pL pInt)) a2) 1) (fun _ => x_var (p := pStr x43.2) 4) (fun _ _ => rdMF)))))) (fun _ => rfl) (fun _ _ => rfl)) fun (b49 : (Unit × ((((Unit × Unit) × (List Int)) × (Unit × ((Unit × Unit) × (List Int)))) × (List Int)))) => s_end (s42 ++ [b49.2.2]) rfl ⟨rfl, rfl, rfl, trivial⟩ (List.Sublist.refl _))) fun b41 s44 => s_T (T := some s44) (s_retV 0 (P := (fun _ => [])) (Ro := (oLO (oL pInt))) (ι := id) (rv := fun _ => s44) (fun _ _ _ h => h) (x_var (p := pV v40) 2) (fun _ => rfl) (fun _ => List.Sublist.refl _))))) (by unfold M_sum_layers; rfl)
end
end My
end
section
set_option Elab.async false
set_option linter.all false
set_option maxRecDepth 100000
set_option maxHeartbeats 4000000
set_option pp.maxSteps 200
namespace My
open PySem PySem.Spec PyProof.Rows L2 L3
section
variable {P : Program} {w : World} {K : PySem.W.Frag} {mg : Str → Option Value} {base : Heap}
theorem sc_live_layers : FnScope ["terms", "box", "low", "high", "layers", "live", "position", "coefficient", "name", "total"] ["terms", "box", "low", "high"] (defScope (top 7)) := ⟨rfl, rfl, rfl, by decide +kernel, rfl, by decide +kernel, by decide +kernel⟩
theorem ok_live_layers {f : Addr} {fd : FuncData} (C : Ev K mg) (FD : FunD K "live_layers" "live_layers" (defArgs (top 7)) (defBody (top 7)) (defScope (top 7)) [] [("low", .non), ("high", .non)] f fd)   : FnOk P w K mg base CX0 4 f fd ["terms", "box", "low", "high"] (Sp_FFFF_o (pL (pT2 pInt pStr)) (pM (κ := Str) (pL pInt)) (pOp pInt) (pOp pInt) M_live_layers (oLO (oL pInt))) := by
  have m_len := C.m_len
  have m_range := C.m_range
  obtain ⟨f_sum_layers, fd_sum_layers, F_sum_layers, g_sum_layers⟩ := C.f_sum_layers
  have k_sum_layers := ok_sum_layers (P := P) (w := w) (base := base) C F_sum_layers
  have b_sum_layers : Binds K fd_sum_layers ["terms", "box"] [] := F_sum_layers.bindsN fun _ _ _ _ _ _ us hl => match us, hl with | [_, _], _ => rfl
  obtain ⟨f_within_bounds, fd_within_bounds, F_within_bounds, g_within_bounds⟩ := C.f_within_bounds
  have k_within_bounds := ok_within_bounds (P := P) (w := w) (base := base) C F_within_bounds
  have b_within_bounds : Binds K fd_within_bounds ["total", "low", "high"] [] := F_within_bounds.bindsN fun _ _ _ _ _ _ us hl => match us, hl with | [_, _, _], _ => rfl
  obtain ⟨f_layer_before, fd_layer_before, F_layer_before, g_layer_before⟩ := C.f_layer_before
  have k_layer_before := ok_layer_before (P := P) (w := w) (base := base) C F_layer_before
  have b_layer_before : Binds K fd_layer_before ["layer", "coefficient", "side", "following"] [] := F_layer_before.bindsN fun _ _ _ _ _ _ us hl => match us, hl with | [_, _, _, _], _ => rfl
  refine fn_FFFF_o FD sc_live_layers rfl fun cdv A outer s H E hr  a1 a2 a3 a4 => ?_
  exact s_is (s_T (T := (M_sum_layers a1 a2).bind fun r50 => (some (r50 : List (List Int))).bind fun x51 => (atI x51 (-(1 : Int))).bind fun x53 => (compM x53 () (fun x55 s57 => (M_within_bounds x55 a3 a4).bind fun r59 => if r59 = true then some (some x55, ()) else some (none, ()))).bind fun r60 => (some ([r60.1] : List (List Int))).bind fun x61 => grd (rg2 (-(1 : Int)) ((a1.length : Int) - (1 : Int)) = true) ((forS (rngD ((a1.length : Int) - (1 : Int)) (((a1.length : Int) - (1 : Int)) - (-(1 : Int))).toNat) (x61 : (List (List Int))) fun x67 s66 => (atI a1 x67).bind fun x71 => (some (x71 : (Int × Str))).bind fun x72 => (atI x51 x67).bind fun x74 => (dget a2 (x72.2)).bind fun x75 => (atI s66 (-(1 : Int))).bind fun x76 => (M_layer_before x74 (x72.1) x75 x76).bind fun r77 => grd (s66.length < sizeLine) (some (s66 ++ [r77]))).bind fun s68 => some (s68.reverse))) (s_let (i := 4) (pL (pL pInt)) sc_live_layers.nd (x_kd (E := fun (b_ : ((Unit × Unit) × (List (List Int)))) => (pL (pL pInt)) b_.2) (x_frz (o_kd (E := fun (b_ : ((Unit × Unit) × (List (List Int)))) => (oLO (oL pInt)) b_.2) (x_FF_o (kk := 3) (E1 := (pL (pT2 pInt pStr))) (E2 := (pM (κ := Str) (pL pInt))) k_sum_layers (hr.mono (by decide)) g_sum_layers F_sum_layers.kp b_sum_layers (x_var (p := (pL (pT2 pInt pStr)) a1) 0) (fun _ => x_var (p := (pM (κ := Str) (pL pInt)) a2) 1))))) fun (b52 : ((Unit × Unit) × (List (List Int)))) x51 => s_T (T := (atI x51 (-(1 : Int))).bind fun x53 => (compM x53 () (fun x55 s57 => (M_within_bounds x55 a3 a4).bind fun r59 => if r59 = true then some (some x55, ()) else some (none, ()))).bind fun r60 => (some ([r60.1] : List (List Int))).bind fun x61 => grd (rg2 (-(1 : Int)) ((a1.length : Int) - (1 : Int)) = true) ((forS (rngD ((a1.length : Int) - (1 : Int)) (((a1.length : Int) - (1 : Int)) - (-(1 : Int))).toNat) (x61 : (List (List Int))) fun x67 s66 => (atI a1 x67).bind fun x71 => (some (x71 : (Int × Str))).bind fun x72 => (atI x51 x67).bind fun x74 => (dget a2 (x72.2)).bind fun x75 => (atI s66 (-(1 : Int))).bind fun x76 => (M_layer_before x74 (x72.1) x75 x76).bind fun r77 => grd (s66.length < sizeLine) (some (s66 ++ [r77]))).bind fun s68 => some (s68.reverse))) (s_letO (i := 5) (oLO (oL pInt)) sc_live_layers.nd (o_kd (E := fun (b_ : ((((Unit × Unit) × (List Int)) × ((List Int) × Unit)) × Unit)) => (oLO (oL pInt)) ([b_.1.2.1])) (x_dispO (D := (oL pInt)) (ao_cons (o_kd (E := fun (b_ : (((Unit × Unit) × (List Int)) × ((List Int) × Unit))) => (oL pInt) b_.2.1) (x_lc (own := [("total", 9)]) (C := fun (b_ : ((Unit × Unit) × (List Int))) (s_ : Unit) => []) (s0 := fun (b_ : ((Unit × Unit) × (List Int))) => ()) (s2 := fun (b_ : ((Unit × Unit) × (List Int))) (x_ : Int) (s_ : Unit) (c_ : ((Unit × (Unit × Unit)) × Bool)) => ()) (s3 := fun (b_ : ((Unit × Unit) × (List Int))) (x_ : Int) (s_ : Unit) (c_ : ((Unit × (Unit × Unit)) × Bool)) (d_ : Unit) => ()) (Ex := pInt) (Ee := pInt) (δ := Int) (y := fun (b_ : ((Unit × Unit) × (List Int))) (x_ : Int) (s_ : Unit) (c_ : ((Unit × (Unit × Unit)) × Bool)) (d_ : Unit) => x_) (T2 := fun (b_ : ((Unit × Unit) × (List Int))) (x_ : Int) (s_ : Unit) (c_ : ((Unit × (Unit × Unit)) × Bool)) => some (some x_, ())) (c := fun (b_ : ((Unit × Unit) × (List Int))) (x_ : Int) (s_ : Unit) (c_ : ((Unit × (Unit × Unit)) × Bool)) => c_.2) (f := fun (b_ : ((Unit × Unit) × (List Int))) (x_ : Int) (s_ : Unit) => (M_within_bounds x_ a3 a4).bind fun r59 => if r59 = true then some (some x_, ()) else some (none, ())) sc_live_layers.nd (i_list (x_kd (E := fun (b_ : ((Unit × Unit) × (List Int))) => (pL pInt) b_.2) (x_ixL (Ee := (pL pInt)) (x_var (p := (pL (pL pInt)) x51) 4) (fun _ => x_kd (E := fun (b_ : Unit) => pInt (-(1 : Int))) (x_neg (x_int (i := 1)))) (fun _ _ => rdF)))) (blkOk_by (own := [("total", 9)]) (N := ["terms", "box", "low", "high", "layers", "live", "position", "coefficient", "name", "total"]) (sc := defScope (top 7)) (by decide +kernel)) (fun _ _ _ _ _ => pg_name (i := 9) sc_live_layers.nd rfl (by first | exact .inl rfl | exact .inr rfl)) (tw_name 9) (fun _ => rfl) (by exact fun q58 _ _ _ _ _ b54 x55 s57 => t_out (pts_one (t_kd (c := fun (b_ : ((Unit × (Unit × Unit)) × Bool)) => b_.2) (t_val (x_kd (E := fun (b_ : ((Unit × (Unit × Unit)) × Bool)) => pBl b_.2) (x_FFF_f (kk := 1) (E1 := pInt) (E2 := (pOp pInt)) (E3 := (pOp pInt)) k_within_bounds (hr.mono (by decide)) g_within_bounds F_within_bounds.kp b_within_bounds (x_var (p := pInt x55) 9) (fun _ => x_var (p := (pOp pInt) a3) 2) (fun _ _ => x_var (p := (pOp pInt) a4) 3))))))) (by exact fun q58 _ _ _ _ _ b54 x55 s57 _ => x_out (x_var (p := pInt x55) 9)))) (fun _ _ => ao_nil)) (fun _ => by simp))) fun (b62 : ((((Unit × Unit) × (List Int)) × ((List Int) × Unit)) × Unit)) x61 v64 => s_T (T := grd (rg2 (-(1 : Int)) ((a1.length : Int) - (1 : Int)) = true) ((forS (rngD ((a1.length : Int) - (1 : Int)) (((a1.length : Int) - (1 : Int)) - (-(1 : Int))).toNat) (x61 : (List (List Int))) fun x67 s66 => (atI a1 x67).bind fun x71 => (some (x71 : (Int × Str))).bind fun x72 => (atI x51 x67).bind fun x74 => (dget a2 (x72.2)).bind fun x75 => (atI s66 (-(1 : Int))).bind fun x76 => (M_layer_before x74 (x72.1) x75 x76).bind fun r77 => grd (s66.length < sizeLine) (some (s66 ++ [r77]))).bind fun s68 => some (s68.reverse))) (s_forS PassesOwn.never (fun (b_ : ((Unit × Unit) × Unit)) (s_ : (List (List Int))) => ([some ((pL (pT2 pInt pStr)) a1), some ((pM (κ := Str) (pL pInt)) a2), some ((pOp pInt) a3), some ((pOp pInt) a4), some ((pL (pL pInt)) x51), some (pV v64), none, none, none, none], [⟨v64, (oLO (oL pInt)) s_, none⟩])) (fun (b_ : ((Unit × Unit) × Unit)) => x61) (i_rngD m_range (x_kd (E := fun (b_ : (Unit × Unit)) => pInt ((a1.length : Int) - (1 : Int))) (x_sub (x_kd (E := fun (b_ : Unit) => pInt (a1.length : Int)) (x_lenL (Ee := (pT2 pInt pStr)) m_len (x_var (p := (pL (pT2 pInt pStr)) a1) 0) (fun _ => rdF))) (fun _ => x_int (i := 1)))) (fun _ => x_kd (E := fun (b_ : Unit) => pInt (-(1 : Int))) (x_neg (x_int (i := 1)))) pe_m1) (pg_name (i := 6) sc_live_layers.nd rfl (by first | exact .inl rfl | exact .inr rfl)) (tg_name 6) (fun _ => ⟨rfl, rfl, rfl, rfl, rfl, rfl, trivial⟩) (fun _ => List.Sublist.refl _) (fun b65 x67 s66 => s_T (T := (atI a1 x67).bind fun x71 => (some (x71 : (Int × Str))).bind fun x72 => (atI x51 x67).bind fun x74 => (dget a2 (x72.2)).bind fun x75 => (atI s66 (-(1 : Int))).bind fun x76 => (M_layer_before x74 (x72.1) x75 x76).bind fun r77 => grd (s66.length < sizeLine) (some (s66 ++ [r77]))) (s_unp (Ex := (pT2 pInt pStr)) (val := fun (b_ : ((Unit × Unit) × (Int × Str))) => b_.2) (pg_tup rfl (pgs_cons (pg_name (i := 7) sc_live_layers.nd rfl (by first | exact .inl rfl | exact .inr rfl)) (pgs_cons (pg_name (i := 8) sc_live_layers.nd rfl (by first | exact .inl rfl | exact .inr rfl)) pgs_nil))) (tg_pair 7 8) (x_kd (E := fun (b_ : ((Unit × Unit) × (Int × Str))) => (pT2 pInt pStr) b_.2) (x_ixL (Ee := (pT2 pInt pStr)) (x_var (p := (pL (pT2 pInt pStr)) a1) 0) (fun _ => x_var (p := pInt x67) 6) (fun _ _ => rdF))) fun (b73 : ((Unit × Unit) × (Int × Str))) x72 => s_T (T := (atI x51 x67).bind fun x74 => (dget a2 (x72.2)).bind fun x75 => (atI s66 (-(1 : Int))).bind fun x76 => (M_layer_before x74 (x72.1) x75 x76).bind fun r77 => grd (s66.length < sizeLine) (some (s66 ++ [r77]))) (s_expr (x_appO 0 (x_var (p := pV v64) 5) (fun _ => o_kd (E := fun (b_ : ((((Unit × Unit) × (List Int)) × (Unit × (((Unit × Unit) × (List Int)) × ((Unit × Unit) × (List Int))))) × (List Int))) => (oL pInt) b_.2) (o_lockG (d := (oLO (oL pInt)) s66) 0 5 (foL feI) (x_FFFF_o (kk := 1) (E1 := (pL pInt)) (E2 := pInt) (E3 := (pL pInt)) (E4 := (pL pInt)) k_layer_before (hr.mono (by decide)) g_layer_before F_layer_before.kp b_layer_before (x_kd (E := fun (b_ : ((Unit × Unit) × (List Int))) => (pL pInt) b_.2) (x_ixL (Ee := (pL pInt)) (x_var (p := (pL (pL pInt)) x51) 4) (fun _ => x_var (p := pInt x67) 6) (fun _ _ => rdF))) (fun _ => x_var (p := pInt x72.1) 7) (fun _ _ => x_kd (E := fun (b_ : ((Unit × Unit) × (List Int))) => (pL pInt) b_.2) (x_dget (κ := Str) (Ee := (pL pInt)) hr.units (x_var (p := (pM (κ := Str) (pL pInt)) a2) 1) (fun _ => x_var (p := pStr x72.2) 8) (fun _ _ => rdMF))) (fun _ _ _ => x_kd (E := fun (b_ : ((Unit × Unit) × (List Int))) => (pL pInt) b_.2) (x_ixL (Ee := (pL pInt)) (x_var (p := (pL (pL pInt)) s66) 5) (fun _ => x_kd (E := fun (b_ : Unit) => pInt (-(1 : Int))) (x_neg (x_int (i := 1)))) (fun _ _ => rdF)))))) (fun _ => rfl) (fun _ _ => rfl)) fun (b78 : (Unit × ((((Unit × Unit) × (List Int)) × (Unit × (((Unit × Unit) × (List Int)) × ((Unit × Unit) × (List Int))))) × (List Int)))) => s_end (s66 ++ [b78.2.2]) rfl ⟨rfl, rfl, rfl, rfl, rfl, rfl, trivial⟩ (List.Sublist.refl _)))) fun b65 s68 => s_T (T := some (s68.reverse)) (s_expr (x_revO 0 (x_var (p := pV v64) 5) (fun _ => rfl)) fun (b69 : Unit) => s_T (T := some (s68.reverse)) (s_retV 0 (P := (fun _ => [])) (Ro := (oLO (oL pInt))) (ι := id) (rv := fun _ => (s68.reverse)) (fun _ _ _ h => h) (x_var (p := pV v64) 5) (fun _ => rfl) (fun _ => List.Sublist.refl _))))))) (by unfold M_live_layers; rfl)
end
end My
end
section
set_option Elab.async false
set_option linter.all false
set_option maxRecDepth 100000
set_option maxHeartbeats 4000000
set_option pp.maxSteps 200
namespace My
open PySem PySem.Spec PyProof.Rows L2 L3
section
variable {P : Program} {w : World} {K : PySem.W.Frag} {mg : Str → Option Value} {base : Heap}
theorem sc_l_is_integer : FnScope ["_law_actual"] ["_law_actual"] (defScope (top 9)) := ⟨rfl, rfl, rfl, by decide +kernel, rfl, by decide +kernel, by decide +kernel⟩
theorem ok_l_is_integer {f : Addr} {fd : FuncData} (C : Ev K mg) (FD : FnP K "_law_is_integer" (top 9) f fd)   : FnOk P w K mg base CX0 1 f fd ["_law_actual"] (Sp_F_f pInt M_l_is_integer pBl) := by
  have m_bool := C.m_bool
  have m_int := C.m_int
  have m_isinstance := C.m_isinstance
  refine fn_F_f FD sc_l_is_integer rfl fun cdv A outer s H E hr  a1 => ?_
  exact s_is (s_T (T := some (true && (!false))) (s_ret (P := (fun _ => [])) (Rp := pBl) (ι := id) (rv := fun (b : Unit) => (true && (!false))) (fun _ _ _ h => h) (x_kd (E := fun (b_ : Unit) => pBl (true && (!false))) (v_and (x_totV (pBl true) () (fun _ => rfl) (by exact (x_kd (E := fun (b_ : Unit) => pBl true) (x_isi (cn := "int") (fun _ => "int") (fun _ => true) m_isinstance m_int (y_var (p := pInt a1) 0) (fun _ => tyInt) (fun _ => by decide +kernel) (by decide +kernel))))) (v_one (x_totV (pBl (!false)) () (fun _ => rfl) (by exact (x_kd (E := fun (b_ : Unit) => pBl (!false)) (x_not (x_kd (E := fun (b_ : Unit) => pBl false) (x_isi (cn := "bool") (fun _ => "int") (fun _ => false) m_isinstance m_bool (y_var (p := pInt a1) 0) (fun _ => tyInt) (fun _ => by decide +kernel) (by decide +kernel)))))))))) (fun _ => List.Sublist.refl _))) (by unfold M_l_is_integer; rfl)
end
end My
end
section
set_option Elab.async false
set_option linter.all false
set_option maxRecDepth 100000
set_option maxHeartbeats 4000000
set_option pp.maxSteps 200
namespace My
open PySem PySem.Spec PyProof.Rows L2 L3
section
variable {P : Program} {w : World} {K : PySem.W.Frag} {mg : Str → Option Value} {base : Heap}
theorem sc_l_stream : FnScope ["_law_script", "_law_k", "_law_cell"] ["_law_script", "_law_k"] (defScope (top 10)) := ⟨rfl, rfl, rfl, by decide +kernel, rfl, by decide +kernel, by decide +kernel⟩
theorem ok_l_stream {f : Addr} {fd : FuncData} (C : Ev K mg) (FD : FnP K "_law_stream" (top 10) f fd)   : FnOk P w K mg base CX0 1 f fd ["_law_script", "_law_k"] (Sp_FF_o (pS K) pInt M_l_stream (oL pInt)) := by
  have m_int := C.m_int
  have m_len := C.m_len
  refine fn_FF_o FD sc_l_stream rfl fun cdv A outer s H E hr  a1 a2 => ?_
  exact s_is (s_T (T := (some ((0 : Int) : Int)).bind fun x79 => (if (decide (a2 < (a1.length : Int))) = true then (atI a1 a2).bind fun x83 => (some (x83 : Int)).bind fun x84 => some x84 else some x79).bind fun s82 => grd ((sm s82 || sm (if (decide (((10 : Int) ^ (18 : Int).toNat) ≤ s82)) then 1 else 0 : Int)) = true) (some ([(s82 * (if (decide (((10 : Int) ^ (18 : Int).toNat) ≤ s82)) then 1 else 0 : Int)), (0 : Int), s82]))) (s_let (i := 2) pInt sc_l_stream.nd (x_int (i := 0)) fun (b80 : Unit) x79 => s_T (T := (if (decide (a2 < (a1.length : Int))) = true then (atI a1 a2).bind fun x83 => (some (x83 : Int)).bind fun x84 => some x84 else some x79).bind fun s82 => grd ((sm s82 || sm (if (decide (((10 : Int) ^ (18 : Int).toNat) ≤ s82)) then 1 else 0 : Int)) = true) (some ([(s82 * (if (decide (((10 : Int) ^ (18 : Int).toNat) ≤ s82)) then 1 else 0 : Int)), (0 : Int), s82]))) (s_ifN (C := fun s_ : Int => ([some ((pS K) a1), some (pInt a2), some (pInt s_)], [])) (t_kd (c := fun (b_ : (Unit × Unit)) => (decide (a2 < (a1.length : Int)))) (t_lt (x_var (p := pInt a2) 1) (fun _ => x_kd (E := fun (b_ : Unit) => pInt (a1.length : Int)) (x_lenS m_len (x_var (p := (pS K) a1) 0))))) (fun (b81 : (Unit × Unit)) => s_T (T := (atI a1 a2).bind fun x83 => (some (x83 : Int)).bind fun x84 => some x84) (s_let (i := 2) pInt sc_l_stream.nd (x_kd (E := fun (b_ : ((Unit × Unit) × Int)) => pInt b_.2) (x_ixS (x_var (p := (pS K) a1) 0) (fun _ => x_var (p := pInt a2) 1))) fun (b85 : ((Unit × Unit) × Int)) x84 => s_end x84 rfl ⟨rfl, rfl, rfl, trivial⟩ (List.Sublist.refl _))) (fun (b81 : (Unit × Unit)) => s_end x79 rfl ⟨rfl, rfl, rfl, trivial⟩ (List.Sublist.refl _)) fun (b81 : (Unit × Unit)) s82 => s_T (T := grd ((sm s82 || sm (if (decide (((10 : Int) ^ (18 : Int).toNat) ≤ s82)) then 1 else 0 : Int)) = true) (some ([(s82 * (if (decide (((10 : Int) ^ (18 : Int).toNat) ≤ s82)) then 1 else 0 : Int)), (0 : Int), s82]))) (s_retO (P := (fun _ => [])) (Ro := (oL pInt)) (ι := id) (rv := fun (b : ((Unit × (Unit × (Unit × Unit))) × (Unit × (Unit × Unit)))) => [(s82 * (if (decide (((10 : Int) ^ (18 : Int).toNat) ≤ s82)) then 1 else 0 : Int)), (0 : Int), s82]) (fun _ _ _ h => h) (o_kd (o_kd (E := fun (b_ : ((Unit × (Unit × (Unit × Unit))) × (Unit × (Unit × Unit)))) => (oL pInt) ([(s82 * (if (decide (((10 : Int) ^ (18 : Int).toNat) ≤ s82)) then 1 else 0 : Int)), (0 : Int), s82])) (x_disp pInt (fun _ => [_, _, _]) (a_cons (x_kd (E := fun (b_ : (Unit × (Unit × (Unit × Unit)))) => pInt (s82 * (if (decide (((10 : Int) ^ (18 : Int).toNat) ≤ s82)) then 1 else 0 : Int))) (x_mul (x_var (p := pInt s82) 2) (fun _ => x_kd (E := fun (b_ : (Unit × (Unit × Unit))) => pInt (if (decide (((10 : Int) ^ (18 : Int).toNat) ≤ s82)) then 1 else 0 : Int)) (x_intB m_int (x_kd (E := fun (b_ : (Unit × (Unit × Unit))) => pBl (decide (((10 : Int) ^ (18 : Int).toNat) ≤ s82))) (x_ge (x_var (p := pInt s82) 2) (fun _ => x_kd (E := fun (b_ : (Unit × Unit)) => pInt ((10 : Int) ^ (18 : Int).toNat)) (x_pow (x_int (i := 10)) (fun _ => x_int (i := 18)) (fun _ _ => by decide))))))))) (fun _ => a_cons (x_int (i := 0)) (fun _ => a_cons (x_var (p := pInt s82) 2) (fun _ => a_nil)))) (fun _ => rfl) (fun _ => by simp)))) (fun _ => List.Sublist.refl _))))) (by unfold M_l_stream; rfl)
end
end My
end
section
set_option Elab.async false
set_option linter.all false
set_option maxRecDepth 100000
set_option maxHeartbeats 4000000
set_option pp.maxSteps 200
namespace My
open PySem PySem.Spec PyProof.Rows L2 L3
section
variable {P : Program} {w : World} {K : PySem.W.Frag} {mg : Str → Option Value} {base : Heap}
theorem sc_l_next : FnScope ["_law_stream_here", "_law_size", "_law_mixed", "_law_digit"] ["_law_stream_here", "_law_size"] (defScope (top 11)) := ⟨rfl, rfl, rfl, by decide +kernel, rfl, by decide +kernel, by decide +kernel⟩
theorem ok_l_next {f : Addr} {fd : FuncData} (C : Ev K mg) (FD : FnP K "_law_next" (top 11) f fd)   : FnOk P w K mg base CX0 1 f fd ["_law_stream_here", "_law_size"] (Sp_OF_f (oL pInt) pInt M_l_next pInt) := by
  have m_int := C.m_int
  refine fn_OF_f FD sc_l_next rfl fun cdv A outer s H E hr v1 G1 a1 a2 => ?_
  exact s_is (s_T (T := (atI a1 (1 : Int)).bind fun x86 => (ixN a1.length (1 : Int)).bind fun (_ : Nat) => (atI (a1.set ((ixN a1.length (1 : Int)).getD 0) (x86 + (1 : Int))) (0 : Int)).bind fun x88 => if (decide ((0 : Int) < x88)) = true then (atI (a1.set ((ixN a1.length (1 : Int)).getD 0) (x86 + (1 : Int))) (0 : Int)).bind fun x90 => grd (0 < a2) ((some ((x90 % a2) : Int)).bind fun x91 => (atI (a1.set ((ixN a1.length (1 : Int)).getD 0) (x86 + (1 : Int))) (0 : Int)).bind fun x93 => grd (dv a2 = true) ((ixN (a1.set ((ixN a1.length (1 : Int)).getD 0) (x86 + (1 : Int))).length (0 : Int)).bind fun (_ : Nat) => some (x91, ((a1.set ((ixN a1.length (1 : Int)).getD 0) (x86 + (1 : Int))).set ((ixN (a1.set ((ixN a1.length (1 : Int)).getD 0) (x86 + (1 : Int))).length (0 : Int)).getD 0) (x93 / a2))))) else (atI (a1.set ((ixN a1.length (1 : Int)).getD 0) (x86 + (1 : Int))) (2 : Int)).bind fun x95 => (atI (a1.set ((ixN a1.length (1 : Int)).getD 0) (x86 + (1 : Int))) (1 : Int)).bind fun x96 => grd ((sm (7919 : Int) || sm x96) = true) (grd (0 < (2147483647 : Int)) ((some ((((x95 + ((7919 : Int) * x96)) + (13 : Int)) % (2147483647 : Int)) : Int)).bind fun x97 => grd ((sm x97 || sm (x97 + (48271 : Int))) = true) (grd (0 < (2147483629 : Int)) ((some (((x97 * (x97 + (48271 : Int))) % (2147483629 : Int)) : Int)).bind fun x99 => grd ((sm x99 || sm (x99 + (69621 : Int))) = true) ((atI (a1.set ((ixN a1.length (1 : Int)).getD 0) (x86 + (1 : Int))) (1 : Int)).bind fun x101 => grd ((sm (31 : Int) || sm x101) = true) (grd (0 < (2147483647 : Int)) ((some ((((x99 * (x99 + (69621 : Int))) + ((31 : Int) * x101)) % (2147483647 : Int)) : Int)).bind fun x102 => grd (dv (9 : Int) = true) (grd (0 < a2) (some (((x102 / (9 : Int)) % a2), (a1.set ((ixN a1.length (1 : Int)).getD 0) (x86 + (1 : Int)))))))))))))) (s_setL 0 (x_kd (E := fun (b_ : (((Unit × Unit) × Int) × Unit)) => pInt (b_.1.2 + (1 : Int))) (x_add (x_kd (E := fun (b_ : ((Unit × Unit) × Int)) => pInt b_.2) (x_ixL (Ee := pInt) (x_var (p := pV v1) 0) (fun _ => x_int (i := 1)) (fun _ _ => rdO 0))) (fun _ => x_int (i := 1)))) (fun _ => x_var (p := pV v1) 0) (fun _ _ => x_int (i := 1)) (fun _ _ _ => rfl) fun (b87 : (((((Unit × Unit) × Int) × Unit) × Unit) × Unit)) => s_T (T := (atI (a1.set ((ixN a1.length (1 : Int)).getD 0) (b87.1.1.1.2 + (1 : Int))) (0 : Int)).bind fun x88 => if (decide ((0 : Int) < x88)) = true then (atI (a1.set ((ixN a1.length (1 : Int)).getD 0) (b87.1.1.1.2 + (1 : Int))) (0 : Int)).bind fun x90 => grd (0 < a2) ((some ((x90 % a2) : Int)).bind fun x91 => (atI (a1.set ((ixN a1.length (1 : Int)).getD 0) (b87.1.1.1.2 + (1 : Int))) (0 : Int)).bind fun x93 => grd (dv a2 = true) ((ixN (a1.set ((ixN a1.length (1 : Int)).getD 0) (b87.1.1.1.2 + (1 : Int))).length (0 : Int)).bind fun (_ : Nat) => some (x91, ((a1.set ((ixN a1.length (1 : Int)).getD 0) (b87.1.1.1.2 + (1 : Int))).set ((ixN (a1.set ((ixN a1.length (1 : Int)).getD 0) (b87.1.1.1.2 + (1 : Int))).length (0 : Int)).getD 0) (x93 / a2))))) else (atI (a1.set ((ixN a1.length (1 : Int)).getD 0) (b87.1.1.1.2 + (1 : Int))) (2 : Int)).bind fun x95 => (atI (a1.set ((ixN a1.length (1 : Int)).getD 0) (b87.1.1.1.2 + (1 : Int))) (1 : Int)).bind fun x96 => grd ((sm (7919 : Int) || sm x96) = true) (grd (0 < (2147483647 : Int)) ((some ((((x95 + ((7919 : Int) * x96)) + (13 : Int)) % (2147483647 : Int)) : Int)).bind fun x97 => grd ((sm x97 || sm (x97 + (48271 : Int))) = true) (grd (0 < (2147483629 : Int)) ((some (((x97 * (x97 + (48271 : Int))) % (2147483629 : Int)) : Int)).bind fun x99 => grd ((sm x99 || sm (x99 + (69621 : Int))) = true) ((atI (a1.set ((ixN a1.length (1 : Int)).getD 0) (b87.1.1.1.2 + (1 : Int))) (1 : Int)).bind fun x101 => grd ((sm (31 : Int) || sm x101) = true) (grd (0 < (2147483647 : Int)) ((some ((((x99 * (x99 + (69621 : Int))) + ((31 : Int) * x101)) % (2147483647 : Int)) : Int)).bind fun x102 => grd (dv (9 : Int) = true) (grd (0 < a2) (some (((x102 / (9 : Int)) % a2), (a1.set ((ixN a1.length (1 : Int)).getD 0) (b87.1.1.1.2 + (1 : Int)))))))))))))) (s_ifT (ins_F _) (t_kd (c := fun (b_ : (((Unit × Unit) × Int) × Unit)) => (decide ((0 : Int) < b_.1.2))) (t_gt (x_kd (E := fun (b_ : ((Unit × Unit) × Int)) => pInt b_.2) (x_ixL (Ee := pInt) (x_var (p := pV v1) 0) (fun _ => x_int (i := 0)) (fun _ _ => rdO 0))) (fun _ => x_int (i := 0)))) (fun (b89 : (((Unit × Unit) × Int) × Unit)) => s_T (T := (atI (a1.set ((ixN a1.length (1 : Int)).getD 0) (b87.1.1.1.2 + (1 : Int))) (0 : Int)).bind fun x90 => grd (0 < a2) ((some ((x90 % a2) : Int)).bind fun x91 => (atI (a1.set ((ixN a1.length (1 : Int)).getD 0) (b87.1.1.1.2 + (1 : Int))) (0 : Int)).bind fun x93 => grd (dv a2 = true) ((ixN (a1.set ((ixN a1.length (1 : Int)).getD 0) (b87.1.1.1.2 + (1 : Int))).length (0 : Int)).bind fun (_ : Nat) => some (x91, ((a1.set ((ixN a1.length (1 : Int)).getD 0) (b87.1.1.1.2 + (1 : Int))).set ((ixN (a1.set ((ixN a1.length (1 : Int)).getD 0) (b87.1.1.1.2 + (1 : Int))).length (0 : Int)).getD 0) (x93 / a2)))))) (s_let (i := 3) pInt sc_l_next.nd (x_kd (E := fun (b_ : (((Unit × Unit) × Int) × Unit)) => pInt (b_.1.2 % a2)) (x_mod (x_kd (E := fun (b_ : ((Unit × Unit) × Int)) => pInt b_.2) (x_intI m_int (x_kd (E := fun (b_ : ((Unit × Unit) × Int)) => pInt b_.2) (x_ixL (Ee := pInt) (x_var (p := pV v1) 0) (fun _ => x_int (i := 0)) (fun _ _ => rdO 0))))) (fun _ => x_var (p := pInt a2) 1))) fun (b92 : (((Unit × Unit) × Int) × Unit)) x91 => s_T (T := (atI (a1.set ((ixN a1.length (1 : Int)).getD 0) (b87.1.1.1.2 + (1 : Int))) (0 : Int)).bind fun x93 => grd (dv a2 = true) ((ixN (a1.set ((ixN a1.length (1 : Int)).getD 0) (b87.1.1.1.2 + (1 : Int))).length (0 : Int)).bind fun (_ : Nat) => some (x91, ((a1.set ((ixN a1.length (1 : Int)).getD 0) (b87.1.1.1.2 + (1 : Int))).set ((ixN (a1.set ((ixN a1.length (1 : Int)).getD 0) (b87.1.1.1.2 + (1 : Int))).length (0 : Int)).getD 0) (x93 / a2))))) (s_setL 0 (x_kd (E := fun (b_ : (((Unit × Unit) × Int) × Unit)) => pInt (b_.1.2 / a2)) (x_fdiv (x_kd (E := fun (b_ : ((Unit × Unit) × Int)) => pInt b_.2) (x_ixL (Ee := pInt) (x_var (p := pV v1) 0) (fun _ => x_int (i := 0)) (fun _ _ => rdO 0))) (fun _ => x_var (p := pInt a2) 1))) (fun _ => x_var (p := pV v1) 0) (fun _ _ => x_int (i := 0)) (fun _ _ _ => rfl) fun (b94 : (((((Unit × Unit) × Int) × Unit) × Unit) × Unit)) => s_T (T := some (x91, ((a1.set ((ixN a1.length (1 : Int)).getD 0) (b87.1.1.1.2 + (1 : Int))).set ((ixN (a1.set ((ixN a1.length (1 : Int)).getD 0) (b87.1.1.1.2 + (1 : Int))).length (0 : Int)).getD 0) (b94.1.1.1.2 / a2)))) (s_ret (P := (fun (r : Int × (List Int)) => [⟨v1, (oL pInt) r.2, some 0⟩])) (Rp := (fun (r : Int × (List Int)) => pInt r.1)) (ι := id) (rv := fun (b : Unit) => (x91, ((a1.set ((ixN a1.length (1 : Int)).getD 0) (b87.1.1.1.2 + (1 : Int))).set ((ixN (a1.set ((ixN a1.length (1 : Int)).getD 0) (b87.1.1.1.2 + (1 : Int))).length (0 : Int)).getD 0) (b94.1.1.1.2 / a2)))) (fun _ _ _ h => h) (x_var (p := pInt x91) 3) (fun _ => List.Sublist.refl _))))) fun (b89 : (((Unit × Unit) × Int) × Unit)) => s_T (T := (atI (a1.set ((ixN a1.length (1 : Int)).getD 0) (b87.1.1.1.2 + (1 : Int))) (2 : Int)).bind fun x95 => (atI (a1.set ((ixN a1.length (1 : Int)).getD 0) (b87.1.1.1.2 + (1 : Int))) (1 : Int)).bind fun x96 => grd ((sm (7919 : Int) || sm x96) = true) (grd (0 < (2147483647 : Int)) ((some ((((x95 + ((7919 : Int) * x96)) + (13 : Int)) % (2147483647 : Int)) : Int)).bind fun x97 => grd ((sm x97 || sm (x97 + (48271 : Int))) = true) (grd (0 < (2147483629 : Int)) ((some (((x97 * (x97 + (48271 : Int))) % (2147483629 : Int)) : Int)).bind fun x99 => grd ((sm x99 || sm (x99 + (69621 : Int))) = true) ((atI (a1.set ((ixN a1.length (1 : Int)).getD 0) (b87.1.1.1.2 + (1 : Int))) (1 : Int)).bind fun x101 => grd ((sm (31 : Int) || sm x101) = true) (grd (0 < (2147483647 : Int)) ((some ((((x99 * (x99 + (69621 : Int))) + ((31 : Int) * x101)) % (2147483647 : Int)) : Int)).bind fun x102 => grd (dv (9 : Int) = true) (grd (0 < a2) (some (((x102 / (9 : Int)) % a2), (a1.set ((ixN a1.length (1 : Int)).getD 0) (b87.1.1.1.2 + (1 : Int)))))))))))))) (s_let (i := 2) pInt sc_l_next.nd (x_kd (E := fun (b_ : (((((Unit × Unit) × Int) × (Unit × ((Unit × Unit) × Int))) × Unit) × Unit)) => pInt (((b_.1.1.1.2 + ((7919 : Int) * b_.1.1.2.2.2)) + (13 : Int)) % (2147483647 : Int))) (x_mod (x_kd (E := fun (b_ : ((((Unit × Unit) × Int) × (Unit × ((Unit × Unit) × Int))) × Unit)) => pInt ((b_.1.1.2 + ((7919 : Int) * b_.1.2.2.2)) + (13 : Int))) (x_intI m_int (x_kd (E := fun (b_ : ((((Unit × Unit) × Int) × (Unit × ((Unit × Unit) × Int))) × Unit)) => pInt ((b_.1.1.2 + ((7919 : Int) * b_.1.2.2.2)) + (13 : Int))) (x_add (x_kd (E := fun (b_ : (((Unit × Unit) × Int) × (Unit × ((Unit × Unit) × Int)))) => pInt (b_.1.2 + ((7919 : Int) * b_.2.2.2))) (x_add (x_kd (E := fun (b_ : ((Unit × Unit) × Int)) => pInt b_.2) (x_ixL (Ee := pInt) (x_var (p := pV v1) 0) (fun _ => x_int (i := 2)) (fun _ _ => rdO 0))) (fun _ => x_kd (E := fun (b_ : (Unit × ((Unit × Unit) × Int))) => pInt ((7919 : Int) * b_.2.2)) (x_mul (x_int (i := 7919)) (fun _ => x_kd (E := fun (b_ : ((Unit × Unit) × Int)) => pInt b_.2) (x_ixL (Ee := pInt) (x_var (p := pV v1) 0) (fun _ => x_int (i := 1)) (fun _ _ => rdO 0))))))) (fun _ => x_int (i := 13)))))) (fun _ => x_int (i := 2147483647)))) fun (b98 : (((((Unit × Unit) × Int) × (Unit × ((Unit × Unit) × Int))) × Unit) × Unit)) x97 => s_T (T := grd ((sm x97 || sm (x97 + (48271 : Int))) = true) (grd (0 < (2147483629 : Int)) ((some (((x97 * (x97 + (48271 : Int))) % (2147483629 : Int)) : Int)).bind fun x99 => grd ((sm x99 || sm (x99 + (69621 : Int))) = true) ((atI (a1.set ((ixN a1.length (1 : Int)).getD 0) (b87.1.1.1.2 + (1 : Int))) (1 : Int)).bind fun x101 => grd ((sm (31 : Int) || sm x101) = true) (grd (0 < (2147483647 : Int)) ((some ((((x99 * (x99 + (69621 : Int))) + ((31 : Int) * x101)) % (2147483647 : Int)) : Int)).bind fun x102 => grd (dv (9 : Int) = true) (grd (0 < a2) (some (((x102 / (9 : Int)) % a2), (a1.set ((ixN a1.length (1 : Int)).getD 0) (b87.1.1.1.2 + (1 : Int)))))))))))) (s_let (i := 2) pInt sc_l_next.nd (x_kd (E := fun (b_ : ((Unit × (Unit × Unit)) × Unit)) => pInt ((x97 * (x97 + (48271 : Int))) % (2147483629 : Int))) (x_mod (x_kd (E := fun (b_ : (Unit × (Unit × Unit))) => pInt (x97 * (x97 + (48271 : Int)))) (x_intI m_int (x_kd (E := fun (b_ : (Unit × (Unit × Unit))) => pInt (x97 * (x97 + (48271 : Int)))) (x_mul (x_var (p := pInt x97) 2) (fun _ => x_kd (E := fun (b_ : (Unit × Unit)) => pInt (x97 + (48271 : Int))) (x_add (x_var (p := pInt x97) 2) (fun _ => x_int (i := 48271)))))))) (fun _ => x_int (i := 2147483629)))) fun (b100 : ((Unit × (Unit × Unit)) × Unit)) x99 => s_T (T := grd ((sm x99 || sm (x99 + (69621 : Int))) = true) ((atI (a1.set ((ixN a1.length (1 : Int)).getD 0) (b87.1.1.1.2 + (1 : Int))) (1 : Int)).bind fun x101 => grd ((sm (31 : Int) || sm x101) = true) (grd (0 < (2147483647 : Int)) ((some ((((x99 * (x99 + (69621 : Int))) + ((31 : Int) * x101)) % (2147483647 : Int)) : Int)).bind fun x102 => grd (dv (9 : Int) = true) (grd (0 < a2) (some (((x102 / (9 : Int)) % a2), (a1.set ((ixN a1.length (1 : Int)).getD 0) (b87.1.1.1.2 + (1 : Int)))))))))) (s_let (i := 2) pInt sc_l_next.nd (x_kd (E := fun (b_ : (((Unit × (Unit × Unit)) × (Unit × ((Unit × Unit) × Int))) × Unit)) => pInt (((x99 * (x99 + (69621 : Int))) + ((31 : Int) * b_.1.2.2.2)) % (2147483647 : Int))) (x_mod (x_kd (E := fun (b_ : ((Unit × (Unit × Unit)) × (Unit × ((Unit × Unit) × Int)))) => pInt ((x99 * (x99 + (69621 : Int))) + ((31 : Int) * b_.2.2.2))) (x_intI m_int (x_kd (E := fun (b_ : ((Unit × (Unit × Unit)) × (Unit × ((Unit × Unit) × Int)))) => pInt ((x99 * (x99 + (69621 : Int))) + ((31 : Int) * b_.2.2.2))) (x_add (x_kd (E := fun (b_ : (Unit × (Unit × Unit))) => pInt (x99 * (x99 + (69621 : Int)))) (x_mul (x_var (p := pInt x99) 2) (fun _ => x_kd (E := fun (b_ : (Unit × Unit)) => pInt (x99 + (69621 : Int))) (x_add (x_var (p := pInt x99) 2) (fun _ => x_int (i := 69621)))))) (fun _ => x_kd (E := fun (b_ : (Unit × ((Unit × Unit) × Int))) => pInt ((31 : Int) * b_.2.2)) (x_mul (x_int (i := 31)) (fun _ => x_kd (E := fun (b_ : ((Unit × Unit) × Int)) => pInt b_.2) (x_ixL (Ee := pInt) (x_var (p := pV v1) 0) (fun _ => x_int (i := 1)) (fun _ _ => rdO 0))))))))) (fun _ => x_int (i := 2147483647)))) fun (b103 : (((Unit × (Unit × Unit)) × (Unit × ((Unit × Unit) × Int))) × Unit)) x102 => s_T (T := grd (dv (9 : Int) = true) (grd (0 < a2) (some (((x102 / (9 : Int)) % a2), (a1.set ((ixN a1.length (1 : Int)).getD 0) (b87.1.1.1.2 + (1 : Int))))))) (s_ret (P := (fun (r : Int × (List Int)) => [⟨v1, (oL pInt) r.2, some 0⟩])) (Rp := (fun (r : Int × (List Int)) => pInt r.1)) (ι := id) (rv := fun (b : ((Unit × Unit) × Unit)) => (((x102 / (9 : Int)) % a2), (a1.set ((ixN a1.length (1 : Int)).getD 0) (b87.1.1.1.2 + (1 : Int))))) (fun _ _ _ h => h) (x_kd (x_kd (E := fun (b_ : ((Unit × Unit) × Unit)) => pInt ((x102 / (9 : Int)) % a2)) (x_mod (x_kd (E := fun (b_ : (Unit × Unit)) => pInt (x102 / (9 : Int))) (x_intI m_int (x_kd (E := fun (b_ : (Unit × Unit)) => pInt (x102 / (9 : Int))) (x_fdiv (x_var (p := pInt x102) 2) (fun _ => x_int (i := 9)))))) (fun _ => x_var (p := pInt a2) 1)))) (fun _ => List.Sublist.refl _)))))))) (by unfold M_l_next; rfl)
end
end My
end
section
set_option Elab.async false
set_option linter.all false
set_option maxRecDepth 100000
set_option maxHeartbeats 4000000
set_option pp.maxSteps 200
namespace My
open PySem PySem.Spec PyProof.Rows L2 L3
section
variable {P : Program} {w : World} {K : PySem.W.Frag} {mg : Str → Option Value} {base : Heap}
theorem sc_l_names : FnScope ["_law_stream_here", "_law_count", "_law_letters", "_law_names_here", "_law_k", "_law_shift", "_law_plain", "_law_at", "_law_size", "_law_tail"] ["_law_stream_here", "_law_count"] (defScope (top 12)) := ⟨rfl, rfl, rfl, by decide +kernel, rfl, by decide +kernel, by decide +kernel⟩
theorem ok_l_names {f : Addr} {fd : FuncData} (C : Ev K mg) (FD : FnP K "_law_names" (top 12) f fd)   : FnOk P w K mg base CX0 2 f fd ["_law_stream_here", "_law_count"] (Sp_OF_o (oL pInt) pInt M_l_names (oL pStr)) := by
  have m_int := C.m_int
  have m_range := C.m_range
  obtain ⟨f_l_next, fd_l_next, F_l_next, g_l_next⟩ := C.f_l_next
  have k_l_next := ok_l_next (P := P) (w := w) (base := base) C F_l_next
  have b_l_next : Binds K fd_l_next ["_law_stream_here", "_law_size"] [] := F_l_next.bindsN fun _ _ _ _ _ _ us hl => match us, hl with | [_, _], _ => rfl
  refine fn_OF_o FD sc_l_names rfl fun cdv A outer s H E hr v1 G1 a1 a2 => ?_
  exact s_is (s_T (T := (M_l_next a1 (3 : Int)).bind fun r104 => if (decide ((r104.1) = (0 : Int))) = true then (M_l_next (r104.2) (8 : Int)).bind fun r106 => (some (r106.1 : Int)).bind fun x107 => (some ([("x" : Str), ("yard" : Str), ("z" : Str), ("u" : Str), ("wide_one" : Str), ("q" : Str), ("pp" : Str), ("t" : Str)] : List Str)).bind fun x109 => grd (rg a2 = true) ((compM (rngL 0 a2.toNat) () (fun x112 s114 => if true = true then grd ((sm x112 || sm (3 : Int)) = true) (grd (0 < (8 : Int)) ((atI x109 (((x112 * (3 : Int)) + x107) % (8 : Int))).bind fun x116 => some (some x116, ()))) else some (none, ()))).bind fun r117 => some (r117.1, r106.2)) else (some (("qwertyuiopasdfghjklzxcvbnm_zyx" : Str) : Str)).bind fun x118 => (some ([] : List Str)).bind fun x120 => grd (rg a2 = true) ((forS (rngL 0 a2.toNat) ((x120, r104.2) : (List Str) × (List Int)) fun x126 s125 => (M_l_next (s125.2) (26 : Int)).bind fun r129 => (some (r129.1 : Int)).bind fun x130 => (M_l_next (r129.2) (3 : Int)).bind fun r132 => (some (((1 : Int) + (r132.1)) : Int)).bind fun x133 => (M_l_next (r132.2) (3 : Int)).bind fun r135 => grd (x118.length ≤ sizeLine) ((some ((cutS x118 (some ((26 : Int) - (r135.1))) (some (26 : Int))) : Str)).bind fun x136 => grd (x118.length ≤ sizeLine) (grd (("7305186429" : Str).length ≤ sizeLine) ((atI ("7305186429" : Str).cps.toList x126).bind fun x138 => grd ((cutS x118 (some x130) (some (x130 + x133))).length + (⟨#[x138]⟩ : Str).length ≤ sizeLine) (grd (((cutS x118 (some x130) (some (x130 + x133))) ++ (⟨#[x138]⟩ : Str)).length + x136.length ≤ sizeLine) (grd ((s125.1).length < sizeLine) (some (((s125.1) ++ [(((cutS x118 (some x130) (some (x130 + x133))) ++ (⟨#[x138]⟩ : Str)) ++ x136)]), r135.2)))))))).bind fun s127 => some (s127.1, s127.2))) (s_ifT (ins_F _) (t_kd (c := fun (b_ : (((Unit × Unit) × (Int × (List Int))) × Unit)) => (decide ((b_.1.2.1) = (0 : Int)))) (t_eqI (x_kd (E := fun (b_ : ((Unit × Unit) × (Int × (List Int)))) => pInt b_.2.1) (x_OF_f (kk := 1) (E1 := (oL pInt)) (E2 := pInt) (s1 := fun (_ : Unit) (_ : Unit) => a1) (v1 := v1) k_l_next (hr.mono (by decide)) g_l_next F_l_next.kp b_l_next 0 (x_var (p := pV v1) 0) (fun _ => x_int (i := 3)) (fun _ _ => rfl))) (fun _ => x_int (i := 0)))) (fun (b105 : (((Unit × Unit) × (Int × (List Int))) × Unit)) => s_T (T := (M_l_next (b105.1.2.2) (8 : Int)).bind fun r106 => (some (r106.1 : Int)).bind fun x107 => (some ([("x" : Str), ("yard" : Str), ("z" : Str), ("u" : Str), ("wide_one" : Str), ("q" : Str), ("pp" : Str), ("t" : Str)] : List Str)).bind fun x109 => grd (rg a2 = true) ((compM (rngL 0 a2.toNat) () (fun x112 s114 => if true = true then grd ((sm x112 || sm (3 : Int)) = true) (grd (0 < (8 : Int)) ((atI x109 (((x112 * (3 : Int)) + x107) % (8 : Int))).bind fun x116 => some (some x116, ()))) else some (none, ()))).bind fun r117 => some (r117.1, r106.2))) (s_let (i := 5) pInt sc_l_names.nd (x_kd (E := fun (b_ : ((Unit × Unit) × (Int × (List Int)))) => pInt b_.2.1) (x_OF_f (kk := 1) (E1 := (oL pInt)) (E2 := pInt) (s1 := fun (_ : Unit) (_ : Unit) => b105.1.2.2) (v1 := v1) k_l_next (hr.mono (by decide)) g_l_next F_l_next.kp b_l_next 0 (x_var (p := pV v1) 0) (fun _ => x_int (i := 8)) (fun _ _ => rfl))) fun (b108 : ((Unit × Unit) × (Int × (List Int)))) x107 => s_T (T := (some ([("x" : Str), ("yard" : Str), ("z" : Str), ("u" : Str), ("wide_one" : Str), ("q" : Str), ("pp" : Str), ("t" : Str)] : List Str)).bind fun x109 => grd (rg a2 = true) ((compM (rngL 0 a2.toNat) () (fun x112 s114 => if true = true then grd ((sm x112 || sm (3 : Int)) = true) (grd (0 < (8 : Int)) ((atI x109 (((x112 * (3 : Int)) + x107) % (8 : Int))).bind fun x116 => some (some x116, ()))) else some (none, ()))).bind fun r117 => some (r117.1, b108.2.2))) (s_let (i := 6) (pL pStr) sc_l_names.nd (x_kd (E := fun (b_ : (Unit × (Unit × (Unit × (Unit × (Unit × (Unit × (Unit × (Unit × Unit))))))))) => (pL pStr) ([("x" : Str), ("yard" : Str), ("z" : Str), ("u" : Str), ("wide_one" : Str), ("q" : Str), ("pp" : Str), ("t" : Str)])) (x_frz (o_kd (E := fun (b_ : (Unit × (Unit × (Unit × (Unit × (Unit × (Unit × (Unit × (Unit × Unit))))))))) => (oL pStr) ([("x" : Str), ("yard" : Str), ("z" : Str), ("u" : Str), ("wide_one" : Str), ("q" : Str), ("pp" : Str), ("t" : Str)])) (x_disp pStr (fun _ => [_, _, _, _, _, _, _, _]) (a_cons x_str (fun _ => a_cons x_str (fun _ => a_cons x_str (fun _ => a_cons x_str (fun _ => a_cons x_str (fun _ => a_cons x_str (fun _ => a_cons x_str (fun _ => a_cons x_str (fun _ => a_nil))))))))) (fun _ => rfl) (fun _ => by simp))))) fun (b110 : (Unit × (Unit × (Unit × (Unit × (Unit × (Unit × (Unit × (Unit × Unit))))))))) x109 => s_T (T := grd (rg a2 = true) ((compM (rngL 0 a2.toNat) () (fun x112 s114 => if true = true then grd ((sm x112 || sm (3 : Int)) = true) (grd (0 < (8 : Int)) ((atI x109 (((x112 * (3 : Int)) + x107) % (8 : Int))).bind fun x116 => some (some x116, ()))) else some (none, ()))).bind fun r117 => some (r117.1, b108.2.2))) (s_retO (P := (fun (r : (List Str) × (List Int)) => [⟨v1, (oL pInt) r.2, some 0⟩])) (Ro := (fun (r : (List Str) × (List Int)) => (oL pStr) r.1)) (ι := id) (rv := fun (b : (Unit × ((List Str) × Unit))) => (b.2.1, b108.2.2)) (fun _ _ _ h => h) (o_kd (o_kd (E := fun (b_ : (Unit × ((List Str) × Unit))) => (oL pStr) b_.2.1) (x_lc (own := [("_law_k", 4)]) (C := fun (b_ : Unit) (s_ : Unit) => [⟨v1, (oL pInt) b108.2.2, some 0⟩]) (s0 := fun (b_ : Unit) => ()) (s2 := fun (b_ : Unit) (x_ : Int) (s_ : Unit) (c_ : Unit) => ()) (s3 := fun (b_ : Unit) (x_ : Int) (s_ : Unit) (c_ : Unit) (d_ : ((Unit × (((Unit × Unit) × Unit) × Unit)) × Str)) => ()) (Ex := pInt) (Ee := pStr) (δ := Str) (y := fun (b_ : Unit) (x_ : Int) (s_ : Unit) (c_ : Unit) (d_ : ((Unit × (((Unit × Unit) × Unit) × Unit)) × Str)) => d_.2) (T2 := fun (b_ : Unit) (x_ : Int) (s_ : Unit) (c_ : Unit) => grd ((sm x_ || sm (3 : Int)) = true) (grd (0 < (8 : Int)) ((atI x109 (((x_ * (3 : Int)) + x107) % (8 : Int))).bind fun x116 => some (some x116, ())))) (c := fun (b_ : Unit) (x_ : Int) (s_ : Unit) (c_ : Unit) => true) (f := fun (b_ : Unit) (x_ : Int) (s_ : Unit) => if true = true then grd ((sm x_ || sm (3 : Int)) = true) (grd (0 < (8 : Int)) ((atI x109 (((x_ * (3 : Int)) + x107) % (8 : Int))).bind fun x116 => some (some x116, ()))) else some (none, ())) sc_l_names.nd (i_rng1 m_range (x_var (p := pInt a2) 1)) (blkOk_by (own := [("_law_k", 4)]) (N := ["_law_stream_here", "_law_count", "_law_letters", "_law_names_here", "_law_k", "_law_shift", "_law_plain", "_law_at", "_law_size", "_law_tail"]) (sc := defScope (top 12)) (by decide +kernel)) (fun _ _ _ _ _ => pg_name (i := 4) sc_l_names.nd rfl (by first | exact .inl rfl | exact .inr rfl)) (tw_name 4) (fun _ => rfl) (by exact fun q115 _ _ _ _ _ b111 x112 s114 => pts_T) (by exact fun q115 _ _ _ _ _ b111 x112 s114 _ => x_out (x_kd (E := fun (b_ : ((Unit × (((Unit × Unit) × Unit) × Unit)) × Str)) => pStr b_.2) (x_ixL (Ee := pStr) (x_var (p := (pL pStr) x109) 6) (fun _ => x_kd (E := fun (b_ : (((Unit × Unit) × Unit) × Unit)) => pInt (((x112 * (3 : Int)) + x107) % (8 : Int))) (x_mod (x_kd (E := fun (b_ : ((Unit × Unit) × Unit)) => pInt ((x112 * (3 : Int)) + x107)) (x_intI m_int (x_kd (E := fun (b_ : ((Unit × Unit) × Unit)) => pInt ((x112 * (3 : Int)) + x107)) (x_add (x_kd (E := fun (b_ : (Unit × Unit)) => pInt (x112 * (3 : Int))) (x_mul (x_var (p := pInt x112) 4) (fun _ => x_int (i := 3)))) (fun _ => x_var (p := pInt x107) 5))))) (fun _ => x_int (i := 8)))) (fun _ _ => rdF))))))) (fun _ => List.Sublist.refl _))))) fun (b105 : (((Unit × Unit) × (Int × (List Int))) × Unit)) => s_T (T := (some (("qwertyuiopasdfghjklzxcvbnm_zyx" : Str) : Str)).bind fun x118 => (some ([] : List Str)).bind fun x120 => grd (rg a2 = true) ((forS (rngL 0 a2.toNat) ((x120, b105.1.2.2) : (List Str) × (List Int)) fun x126 s125 => (M_l_next (s125.2) (26 : Int)).bind fun r129 => (some (r129.1 : Int)).bind fun x130 => (M_l_next (r129.2) (3 : Int)).bind fun r132 => (some (((1 : Int) + (r132.1)) : Int)).bind fun x133 => (M_l_next (r132.2) (3 : Int)).bind fun r135 => grd (x118.length ≤ sizeLine) ((some ((cutS x118 (some ((26 : Int) - (r135.1))) (some (26 : Int))) : Str)).bind fun x136 => grd (x118.length ≤ sizeLine) (grd (("7305186429" : Str).length ≤ sizeLine) ((atI ("7305186429" : Str).cps.toList x126).bind fun x138 => grd ((cutS x118 (some x130) (some (x130 + x133))).length + (⟨#[x138]⟩ : Str).length ≤ sizeLine) (grd (((cutS x118 (some x130) (some (x130 + x133))) ++ (⟨#[x138]⟩ : Str)).length + x136.length ≤ sizeLine) (grd ((s125.1).length < sizeLine) (some (((s125.1) ++ [(((cutS x118 (some x130) (some (x130 + x133))) ++ (⟨#[x138]⟩ : Str)) ++ x136)]), r135.2)))))))).bind fun s127 => some (s127.1, s127.2))) (s_let (i := 2) pStr sc_l_names.nd x_str fun (b119 : Unit) x118 => s_T (T := (some ([] : List Str)).bind fun x120 => grd (rg a2 = true) ((forS (rngL 0 a2.toNat) ((x120, b105.1.2.2) : (List Str) × (List Int)) fun x126 s125 => (M_l_next (s125.2) (26 : Int)).bind fun r129 => (some (r129.1 : Int)).bind fun x130 => (M_l_next (r129.2) (3 : Int)).bind fun r132 => (some (((1 : Int) + (r132.1)) : Int)).bind fun x133 => (M_l_next (r132.2) (3 : Int)).bind fun r135 => grd (x118.length ≤ sizeLine) ((some ((cutS x118 (some ((26 : Int) - (r135.1))) (some (26 : Int))) : Str)).bind fun x136 => grd (x118.length ≤ sizeLine) (grd (("7305186429" : Str).length ≤ sizeLine) ((atI ("7305186429" : Str).cps.toList x126).bind fun x138 => grd ((cutS x118 (some x130) (some (x130 + x133))).length + (⟨#[x138]⟩ : Str).length ≤ sizeLine) (grd (((cutS x118 (some x130) (some (x130 + x133))) ++ (⟨#[x138]⟩ : Str)).length + x136.length ≤ sizeLine) (grd ((s125.1).length < sizeLine) (some (((s125.1) ++ [(((cutS x118 (some x130) (some (x130 + x133))) ++ (⟨#[x138]⟩ : Str)) ++ x136)]), r135.2)))))))).bind fun s127 => some (s127.1, s127.2))) (s_letO (i := 3) (oL pStr) sc_l_names.nd (o_kd (E := fun (b_ : Unit) => (oL pStr) ([])) (x_nil pStr)) fun (b121 : Unit) x120 v123 => s_T (T := grd (rg a2 = true) ((forS (rngL 0 a2.toNat) ((x120, b105.1.2.2) : (List Str) × (List Int)) fun x126 s125 => (M_l_next (s125.2) (26 : Int)).bind fun r129 => (some (r129.1 : Int)).bind fun x130 => (M_l_next (r129.2) (3 : Int)).bind fun r132 => (some (((1 : Int) + (r132.1)) : Int)).bind fun x133 => (M_l_next (r132.2) (3 : Int)).bind fun r135 => grd (x118.length ≤ sizeLine) ((some ((cutS x118 (some ((26 : Int) - (r135.1))) (some (26 : Int))) : Str)).bind fun x136 => grd (x118.length ≤ sizeLine) (grd (("7305186429" : Str).length ≤ sizeLine) ((atI ("7305186429" : Str).cps.toList x126).bind fun x138 => grd ((cutS x118 (some x130) (some (x130 + x133))).length + (⟨#[x138]⟩ : Str).length ≤ sizeLine) (grd (((cutS x118 (some x130) (some (x130 + x133))) ++ (⟨#[x138]⟩ : Str)).length + x136.length ≤ sizeLine) (grd ((s125.1).length < sizeLine) (some (((s125.1) ++ [(((cutS x118 (some x130) (some (x130 + x133))) ++ (⟨#[x138]⟩ : Str)) ++ x136)]), r135.2)))))))).bind fun s127 => some (s127.1, s127.2))) (s_forS PassesOwn.never (fun (b_ : Unit) (s_ : (List Str) × (List Int)) => ([some (pV v1), some (pInt a2), some (pStr x118), some (pV v123), none, none, none, none, none, none], [⟨v123, (oL pStr) s_.1, none⟩, ⟨v1, (oL pInt) s_.2, some 0⟩])) (fun (b_ : Unit) => (x120, b105.1.2.2)) (i_rng1 m_range (x_var (p := pInt a2) 1)) (pg_name (i := 4) sc_l_names.nd rfl (by first | exact .inl rfl | exact .inr rfl)) (tg_name 4) (fun _ => ⟨rfl, rfl, rfl, rfl, trivial⟩) (fun _ => List.Sublist.refl _) (fun b124 x126 s125 => s_T (T := (M_l_next (s125.2) (26 : Int)).bind fun r129 => (some (r129.1 : Int)).bind fun x130 => (M_l_next (r129.2) (3 : Int)).bind fun r132 => (some (((1 : Int) + (r132.1)) : Int)).bind fun x133 => (M_l_next (r132.2) (3 : Int)).bind fun r135 => grd (x118.length ≤ sizeLine) ((some ((cutS x118 (some ((26 : Int) - (r135.1))) (some (26 : Int))) : Str)).bind fun x136 => grd (x118.length ≤ sizeLine) (grd (("7305186429" : Str).length ≤ sizeLine) ((atI ("7305186429" : Str).cps.toList x126).bind fun x138 => grd ((cutS x118 (some x130) (some (x130 + x133))).length + (⟨#[x138]⟩ : Str).length ≤ sizeLine) (grd (((cutS x118 (some x130) (some (x130 + x133))) ++ (⟨#[x138]⟩ : Str)).length + x136.length ≤ sizeLine) (grd ((s125.1).length < sizeLine) (some (((s125.1) ++ [(((cutS x118 (some x130) (some (x130 + x133))) ++ (⟨#[x138]⟩ : Str)) ++ x136)]), r135.2)))))))) (s_let (i := 7) pInt sc_l_names.nd (x_kd (E := fun (b_ : ((Unit × Unit) × (Int × (List Int)))) => pInt b_.2.1) (x_OF_f (kk := 1) (E1 := (oL pInt)) (E2 := pInt) (s1 := fun (_ : Unit) (_ : Unit) => s125.2) (v1 := v1) k_l_next (hr.mono (by decide)) g_l_next F_l_next.kp b_l_next 1 (x_var (p := pV v1) 0) (fun _ => x_int (i := 26)) (fun _ _ => rfl))) fun (b131 : ((Unit × Unit) × (Int × (List Int)))) x130 => s_T (T := (M_l_next (b131.2.2) (3 : Int)).bind fun r132 => (some (((1 : Int) + (r132.1)) : Int)).bind fun x133 => (M_l_next (r132.2) (3 : Int)).bind fun r135 => grd (x118.length ≤ sizeLine) ((some ((cutS x118 (some ((26 : Int) - (r135.1))) (some (26 : Int))) : Str)).bind fun x136 => grd (x118.length ≤ sizeLine) (grd (("7305186429" : Str).length ≤ sizeLine) ((atI ("7305186429" : Str).cps.toList x126).bind fun x138 => grd ((cutS x118 (some x130) (some (x130 + x133))).length + (⟨#[x138]⟩ : Str).length ≤ sizeLine) (grd (((cutS x118 (some x130) (some (x130 + x133))) ++ (⟨#[x138]⟩ : Str)).length + x136.length ≤ sizeLine) (grd ((s125.1).length < sizeLine) (some (((s125.1) ++ [(((cutS x118 (some x130) (some (x130 + x133))) ++ (⟨#[x138]⟩ : Str)) ++ x136)]), r135.2)))))))) (s_let (i := 8) pInt sc_l_names.nd (x_kd (E := fun (b_ : (Unit × ((Unit × Unit) × (Int × (List Int))))) => pInt ((1 : Int) + (b_.2.2.1))) (x_add (x_int (i := 1)) (fun _ => x_kd (E := fun (b_ : ((Unit × Unit) × (Int × (List Int)))) => pInt b_.2.1) (x_OF_f (kk := 1) (E1 := (oL pInt)) (E2 := pInt) (s1 := fun (_ : Unit) (_ : Unit) => b131.2.2) (v1 := v1) k_l_next (hr.mono (by decide)) g_l_next F_l_next.kp b_l_next 1 (x_var (p := pV v1) 0) (fun _ => x_int (i := 3)) (fun _ _ => rfl))))) fun (b134 : (Unit × ((Unit × Unit) × (Int × (List Int))))) x133 => s_T (T := (M_l_next (b134.2.2.2) (3 : Int)).bind fun r135 => grd (x118.length ≤ sizeLine) ((some ((cutS x118 (some ((26 : Int) - (r135.1))) (some (26 : Int))) : Str)).bind fun x136 => grd (x118.length ≤ sizeLine) (grd (("7305186429" : Str).length ≤ sizeLine) ((atI ("7305186429" : Str).cps.toList x126).bind fun x138 => grd ((cutS x118 (some x130) (some (x130 + x133))).length + (⟨#[x138]⟩ : Str).length ≤ sizeLine) (grd (((cutS x118 (some x130) (some (x130 + x133))) ++ (⟨#[x138]⟩ : Str)).length + x136.length ≤ sizeLine) (grd ((s125.1).length < sizeLine) (some (((s125.1) ++ [(((cutS x118 (some x130) (some (x130 + x133))) ++ (⟨#[x138]⟩ : Str)) ++ x136)]), r135.2)))))))) (s_let (i := 9) pStr sc_l_names.nd (x_kd (E := fun (b_ : (Unit × ((Unit × ((Unit × Unit) × (Int × (List Int)))) × Unit))) => pStr (cutS x118 (some ((26 : Int) - (b_.2.1.2.2.1))) (some (26 : Int)))) (x_slS (x_var (p := pStr x118) 2) (fun _ => p_some (i := fun (b_ : (Unit × ((Unit × Unit) × (Int × (List Int))))) => ((26 : Int) - (b_.2.2.1))) (x_kd (E := fun (b_ : (Unit × ((Unit × Unit) × (Int × (List Int))))) => pInt ((26 : Int) - (b_.2.2.1))) (x_sub (x_int (i := 26)) (fun _ => x_kd (E := fun (b_ : ((Unit × Unit) × (Int × (List Int)))) => pInt b_.2.1) (x_OF_f (kk := 1) (E1 := (oL pInt)) (E2 := pInt) (s1 := fun (_ : Unit) (_ : Unit) => b134.2.2.2) (v1 := v1) k_l_next (hr.mono (by decide)) g_l_next F_l_next.kp b_l_next 1 (x_var (p := pV v1) 0) (fun _ => x_int (i := 3)) (fun _ _ => rfl)))))) (fun _ _ => p_some (i := fun (b_ : Unit) => (26 : Int)) (x_int (i := 26))))) fun (b137 : (Unit × ((Unit × ((Unit × Unit) × (Int × (List Int)))) × Unit))) x136 => s_T (T := grd (x118.length ≤ sizeLine) (grd (("7305186429" : Str).length ≤ sizeLine) ((atI ("7305186429" : Str).cps.toList x126).bind fun x138 => grd ((cutS x118 (some x130) (some (x130 + x133))).length + (⟨#[x138]⟩ : Str).length ≤ sizeLine) (grd (((cutS x118 (some x130) (some (x130 + x133))) ++ (⟨#[x138]⟩ : Str)).length + x136.length ≤ sizeLine) (grd ((s125.1).length < sizeLine) (some (((s125.1) ++ [(((cutS x118 (some x130) (some (x130 + x133))) ++ (⟨#[x138]⟩ : Str)) ++ x136)]), b137.2.1.2.2.2))))))) (s_expr (x_app 0 (x_var (p := pV v123) 3) (fun _ => x_kd (E := fun (b_ : (((Unit × (Unit × (Unit × Unit))) × ((Unit × Unit) × Nat)) × Unit)) => pStr (((cutS x118 (some x130) (some (x130 + x133))) ++ (⟨#[b_.1.2.2]⟩ : Str)) ++ x136)) (x_addS (x_kd (E := fun (b_ : ((Unit × (Unit × (Unit × Unit))) × ((Unit × Unit) × Nat))) => pStr ((cutS x118 (some x130) (some (x130 + x133))) ++ (⟨#[b_.2.2]⟩ : Str))) (x_addS (x_kd (E := fun (b_ : (Unit × (Unit × (Unit × Unit)))) => pStr (cutS x118 (some x130) (some (x130 + x133)))) (x_slS (x_var (p := pStr x118) 2) (fun _ => p_some (i := fun (b_ : Unit) => x130) (x_var (p := pInt x130) 7)) (fun _ _ => p_some (i := fun (b_ : (Unit × Unit)) => (x130 + x133)) (x_kd (E := fun (b_ : (Unit × Unit)) => pInt (x130 + x133)) (x_add (x_var (p := pInt x130) 7) (fun _ => x_var (p := pInt x133) 8)))))) (fun _ => x_kd (E := fun (b_ : ((Unit × Unit) × Nat)) => pStr (⟨#[b_.2]⟩ : Str)) (x_ixC x_str (fun _ => x_var (p := pInt x126) 4))))) (fun _ => x_var (p := pStr x136) 9))) (fun _ => rfl) (fun _ _ => rfl)) fun (b139 : (Unit × (((Unit × (Unit × (Unit × Unit))) × ((Unit × Unit) × Nat)) × Unit))) => s_end (((s125.1) ++ [(((cutS x118 (some x130) (some (x130 + x133))) ++ (⟨#[b139.2.1.2.2]⟩ : Str)) ++ x136)]), b137.2.1.2.2.2) rfl ⟨rfl, rfl, rfl, rfl, trivial⟩ (List.Sublist.refl _)))))) fun b124 s127 => s_T (T := some (s127.1, s127.2)) (s_retV 0 (P := (fun (r : (List Str) × (List Int)) => [⟨v1, (oL pInt) r.2, some 0⟩])) (Ro := (fun (r : (List Str) × (List Int)) => (oL pStr) r.1)) (ι := id) (rv := fun _ => (s127.1, s127.2)) (fun _ _ _ h => h) (x_var (p := pV v123) 3) (fun _ => rfl) (fun _ => List.Sublist.refl _))))))) (by unfold M_l_names; rfl)
end
end My
end
section
set_option Elab.async false
set_option linter.all false
set_option maxRecDepth 100000
set_option maxHeartbeats 4000000
set_option pp.maxSteps 200
namespace My
open PySem PySem.Spec PyProof.Rows L2 L3
section
variable {P : Program} {w : World} {K : PySem.W.Frag} {mg : Str → Option Value} {base : Heap}
theorem sc_l_pool : FnScope ["_law_stream_here", "_law_count", "_law_pool_here", "_law_k", "_law_scale", "_law_value"] ["_law_stream_here", "_law_count"] (defScope (top 13)) := ⟨rfl, rfl, rfl, by decide +kernel, rfl, by decide +kernel, by decide +kernel⟩
theorem ok_l_pool {f : Addr} {fd : FuncData} (C : Ev K mg) (FD : FnP K "_law_pool" (top 13) f fd)   : FnOk P w K mg base CX0 2 f fd ["_law_stream_here", "_law_count"] (Sp_OF_o (oL pInt) pInt M_l_pool (oL pInt)) := by
  have m_range := C.m_range
  obtain ⟨f_l_next, fd_l_next, F_l_next, g_l_next⟩ := C.f_l_next
  have k_l_next := ok_l_next (P := P) (w := w) (base := base) C F_l_next
  have b_l_next : Binds K fd_l_next ["_law_stream_here", "_law_size"] [] := F_l_next.bindsN fun _ _ _ _ _ _ us hl => match us, hl with | [_, _], _ => rfl
  refine fn_OF_o FD sc_l_pool rfl fun cdv A outer s H E hr v1 G1 a1 a2 => ?_
  exact s_is (s_T (T := (M_l_next a1 (9 : Int)).bind fun r140 => (some ([((r140.1) - (4 : Int))] : List Int)).bind fun x141 => grd (rg (a2 - (1 : Int)) = true) ((forS (rngL 0 (a2 - (1 : Int)).toNat) ((x141, r140.2) : (List Int) × (List Int)) fun x147 s146 => (atI (s146.1) x147).bind fun x158 => (M_l_next (s146.2) (4 : Int)).bind fun r159 => grd (dv (3 : Int) = true) (grd ((sm (2 : Int) || sm ((r159.1) / (3 : Int))) = true) (grd ((s146.1).length < sizeLine) (some (((s146.1) ++ [((x158 + (1 : Int)) + ((2 : Int) * ((r159.1) / (3 : Int))))]), r159.2))))).bind fun s148 => (M_l_next (s148.2) (8 : Int)).bind fun r149 => (atI ([(1 : Int), (1 : Int), (1 : Int), (1 : Int), (1 : Int), (1 : Int), (7 : Int), ((10 : Int) ^ (9 : Int).toNat)]) (r149.1)).bind fun x150 => (some (x150 : Int)).bind fun x151 => (compM (s148.1) () (fun x154 s155 => if true = true then grd ((sm x154 || sm x151) = true) (some (some (x154 * x151), ())) else some (none, ()))).bind fun r157 => some (r157.1, r149.2))) (s_letO (i := 2) (oL pInt) sc_l_pool.nd (o_kd (E := fun (b_ : ((((Unit × Unit) × (Int × (List Int))) × Unit) × Unit)) => (oL pInt) ([((b_.1.1.2.1) - (4 : Int))])) (x_disp pInt (fun _ => [_]) (a_cons (x_kd (E := fun (b_ : (((Unit × Unit) × (Int × (List Int))) × Unit)) => pInt ((b_.1.2.1) - (4 : Int))) (x_sub (x_kd (E := fun (b_ : ((Unit × Unit) × (Int × (List Int)))) => pInt b_.2.1) (x_OF_f (kk := 1) (E1 := (oL pInt)) (E2 := pInt) (s1 := fun (_ : Unit) (_ : Unit) => a1) (v1 := v1) k_l_next (hr.mono (by decide)) g_l_next F_l_next.kp b_l_next 0 (x_var (p := pV v1) 0) (fun _ => x_int (i := 9)) (fun _ _ => rfl))) (fun _ => x_int (i := 4)))) (fun _ => a_nil)) (fun _ => rfl) (fun _ => by simp))) fun (b142 : ((((Unit × Unit) × (Int × (List Int))) × Unit) × Unit)) x141 v144 => s_T (T := grd (rg (a2 - (1 : Int)) = true) ((forS (rngL 0 (a2 - (1 : Int)).toNat) ((x141, b142.1.1.2.2) : (List Int) × (List Int)) fun x147 s146 => (atI (s146.1) x147).bind fun x158 => (M_l_next (s146.2) (4 : Int)).bind fun r159 => grd (dv (3 : Int) = true) (grd ((sm (2 : Int) || sm ((r159.1) / (3 : Int))) = true) (grd ((s146.1).length < sizeLine) (some (((s146.1) ++ [((x158 + (1 : Int)) + ((2 : Int) * ((r159.1) / (3 : Int))))]), r159.2))))).bind fun s148 => (M_l_next (s148.2) (8 : Int)).bind fun r149 => (atI ([(1 : Int), (1 : Int), (1 : Int), (1 : Int), (1 : Int), (1 : Int), (7 : Int), ((10 : Int) ^ (9 : Int).toNat)]) (r149.1)).bind fun x150 => (some (x150 : Int)).bind fun x151 => (compM (s148.1) () (fun x154 s155 => if true = true then grd ((sm x154 || sm x151) = true) (some (some (x154 * x151), ())) else some (none, ()))).bind fun r157 => some (r157.1, r149.2))) (s_forS PassesOwn.never (fun (b_ : (Unit × Unit)) (s_ : (List Int) × (List Int)) => ([some (pV v1), some (pInt a2), some (pV v144), none, none, none], [⟨v144, (oL pInt) s_.1, none⟩, ⟨v1, (oL pInt) s_.2, some 0⟩])) (fun (b_ : (Unit × Unit)) => (x141, b142.1.1.2.2)) (i_rng1 m_range (x_kd (E := fun (b_ : (Unit × Unit)) => pInt (a2 - (1 : Int))) (x_sub (x_var (p := pInt a2) 1) (fun _ => x_int (i := 1))))) (pg_name (i := 3) sc_l_pool.nd rfl (by first | exact .inl rfl | exact .inr rfl)) (tg_name 3) (fun _ => ⟨rfl, rfl, rfl, trivial⟩) (fun _ => List.Sublist.refl _) (fun b145 x147 s146 => s_T (T := (atI (s146.1) x147).bind fun x158 => (M_l_next (s146.2) (4 : Int)).bind fun r159 => grd (dv (3 : Int) = true) (grd ((sm (2 : Int) || sm ((r159.1) / (3 : Int))) = true) (grd ((s146.1).length < sizeLine) (some (((s146.1) ++ [((x158 + (1 : Int)) + ((2 : Int) * ((r159.1) / (3 : Int))))]), r159.2))))) (s_expr (x_app 0 (x_var (p := pV v144) 2) (fun _ => x_kd (E := fun (b_ : ((((Unit × Unit) × Int) × Unit) × (Unit × (((Unit × Unit) × (Int × (List Int))) × Unit)))) => pInt ((b_.1.1.2 + (1 : Int)) + ((2 : Int) * ((b_.2.2.1.2.1) / (3 : Int))))) (x_add (x_kd (E := fun (b_ : (((Unit × Unit) × Int) × Unit)) => pInt (b_.1.2 + (1 : Int))) (x_add (x_kd (E := fun (b_ : ((Unit × Unit) × Int)) => pInt b_.2) (x_ixL (Ee := pInt) (x_var (p := pV v144) 2) (fun _ => x_var (p := pInt x147) 3) (fun _ _ => rdO 0))) (fun _ => x_int (i := 1)))) (fun _ => x_kd (E := fun (b_ : (Unit × (((Unit × Unit) × (Int × (List Int))) × Unit))) => pInt ((2 : Int) * ((b_.2.1.2.1) / (3 : Int)))) (x_mul (x_int (i := 2)) (fun _ => x_kd (E := fun (b_ : (((Unit × Unit) × (Int × (List Int))) × Unit)) => pInt ((b_.1.2.1) / (3 : Int))) (x_fdiv (x_kd (E := fun (b_ : ((Unit × Unit) × (Int × (List Int)))) => pInt b_.2.1) (x_OF_f (kk := 1) (E1 := (oL pInt)) (E2 := pInt) (s1 := fun (_ : Unit) (_ : Unit) => s146.2) (v1 := v1) k_l_next (hr.mono (by decide)) g_l_next F_l_next.kp b_l_next 1 (x_var (p := pV v1) 0) (fun _ => x_int (i := 4)) (fun _ _ => rfl))) (fun _ => x_int (i := 3)))))))) (fun _ => rfl) (fun _ _ => rfl)) fun (b160 : (Unit × ((((Unit × Unit) × Int) × Unit) × (Unit × (((Unit × Unit) × (Int × (List Int))) × Unit))))) => s_end (((s146.1) ++ [((b160.2.1.1.2 + (1 : Int)) + ((2 : Int) * ((b160.2.2.2.1.2.1) / (3 : Int))))]), b160.2.2.2.1.2.2) rfl ⟨rfl, rfl, rfl, trivial⟩ (List.Sublist.refl _))) fun b145 s148 => s_frz (i := 2) (c := ⟨v144, (oL pInt) s148.1, none⟩) 0 (s_T (T := (M_l_next (s148.2) (8 : Int)).bind fun r149 => (atI ([(1 : Int), (1 : Int), (1 : Int), (1 : Int), (1 : Int), (1 : Int), (7 : Int), ((10 : Int) ^ (9 : Int).toNat)]) (r149.1)).bind fun x150 => (some (x150 : Int)).bind fun x151 => (compM (s148.1) () (fun x154 s155 => if true = true then grd ((sm x154 || sm x151) = true) (some (some (x154 * x151), ())) else some (none, ()))).bind fun r157 => some (r157.1, r149.2)) (s_let (i := 4) pInt sc_l_pool.nd (x_kd (E := fun (b_ : (((Unit × (Unit × (Unit × (Unit × (Unit × (Unit × (Unit × ((Unit × Unit) × Unit)))))))) × ((Unit × Unit) × (Int × (List Int)))) × Int)) => pInt b_.2) (x_ixL (Ee := pInt) (x_kd (E := fun (b_ : (Unit × (Unit × (Unit × (Unit × (Unit × (Unit × (Unit × ((Unit × Unit) × Unit))))))))) => (pL pInt) ([(1 : Int), (1 : Int), (1 : Int), (1 : Int), (1 : Int), (1 : Int), (7 : Int), ((10 : Int) ^ (9 : Int).toNat)])) (x_frz (o_kd (E := fun (b_ : (Unit × (Unit × (Unit × (Unit × (Unit × (Unit × (Unit × ((Unit × Unit) × Unit))))))))) => (oL pInt) ([(1 : Int), (1 : Int), (1 : Int), (1 : Int), (1 : Int), (1 : Int), (7 : Int), ((10 : Int) ^ (9 : Int).toNat)])) (x_disp pInt (fun _ => [_, _, _, _, _, _, _, _]) (a_cons (x_int (i := 1)) (fun _ => a_cons (x_int (i := 1)) (fun _ => a_cons (x_int (i := 1)) (fun _ => a_cons (x_int (i := 1)) (fun _ => a_cons (x_int (i := 1)) (fun _ => a_cons (x_int (i := 1)) (fun _ => a_cons (x_int (i := 7)) (fun _ => a_cons (x_kd (E := fun (b_ : (Unit × Unit)) => pInt ((10 : Int) ^ (9 : Int).toNat)) (x_pow (x_int (i := 10)) (fun _ => x_int (i := 9)) (fun _ _ => by decide))) (fun _ => a_nil))))))))) (fun _ => rfl) (fun _ => by simp))))) (fun _ => x_kd (E := fun (b_ : ((Unit × Unit) × (Int × (List Int)))) => pInt b_.2.1) (x_OF_f (kk := 1) (E1 := (oL pInt)) (E2 := pInt) (s1 := fun (_ : Unit) (_ : Unit) => s148.2) (v1 := v1) k_l_next (hr.mono (by decide)) g_l_next F_l_next.kp b_l_next 0 (x_var (p := pV v1) 0) (fun _ => x_int (i := 8)) (fun _ _ => rfl))) (fun _ _ => rdF))) fun (b152 : (((Unit × (Unit × (Unit × (Unit × (Unit × (Unit × (Unit × ((Unit × Unit) × Unit)))))))) × ((Unit × Unit) × (Int × (List Int)))) × Int)) x151 => s_T (T := (compM (s148.1) () (fun x154 s155 => if true = true then grd ((sm x154 || sm x151) = true) (some (some (x154 * x151), ())) else some (none, ()))).bind fun r157 => some (r157.1, b152.1.2.2.2)) (s_retO (P := (fun (r : (List Int) × (List Int)) => [⟨v1, (oL pInt) r.2, some 0⟩])) (Ro := (fun (r : (List Int) × (List Int)) => (oL pInt) r.1)) (ι := id) (rv := fun (b : (Unit × ((List Int) × Unit))) => (b.2.1, b152.1.2.2.2)) (fun _ _ _ h => h) (o_kd (o_kd (E := fun (b_ : (Unit × ((List Int) × Unit))) => (oL pInt) b_.2.1) (x_lc (own := [("_law_value", 5)]) (C := fun (b_ : Unit) (s_ : Unit) => [⟨v1, (oL pInt) b152.1.2.2.2, some 0⟩]) (s0 := fun (b_ : Unit) => ()) (s2 := fun (b_ : Unit) (x_ : Int) (s_ : Unit) (c_ : Unit) => ()) (s3 := fun (b_ : Unit) (x_ : Int) (s_ : Unit) (c_ : Unit) (d_ : (Unit × Unit)) => ()) (Ex := pInt) (Ee := pInt) (δ := Int) (y := fun (b_ : Unit) (x_ : Int) (s_ : Unit) (c_ : Unit) (d_ : (Unit × Unit)) => (x_ * x151)) (T2 := fun (b_ : Unit) (x_ : Int) (s_ : Unit) (c_ : Unit) => grd ((sm x_ || sm x151) = true) (some (some (x_ * x151), ()))) (c := fun (b_ : Unit) (x_ : Int) (s_ : Unit) (c_ : Unit) => true) (f := fun (b_ : Unit) (x_ : Int) (s_ : Unit) => if true = true then grd ((sm x_ || sm x151) = true) (some (some (x_ * x151), ())) else some (none, ())) sc_l_pool.nd (i_list (x_var (p := (pL pInt) s148.1) 2)) (blkOk_by (own := [("_law_value", 5)]) (N := ["_law_stream_here", "_law_count", "_law_pool_here", "_law_k", "_law_scale", "_law_value"]) (sc := defScope (top 13)) (by decide +kernel)) (fun _ _ _ _ _ => pg_name (i := 5) sc_l_pool.nd rfl (by first | exact .inl rfl | exact .inr rfl)) (tw_name 5) (fun _ => rfl) (by exact fun q156 _ _ _ _ _ b153 x154 s155 => pts_T) (by exact fun q156 _ _ _ _ _ b153 x154 s155 _ => x_out (x_kd (E := fun (b_ : (Unit × Unit)) => pInt (x154 * x151)) (x_mul (x_var (p := pInt x154) 5) (fun _ => x_var (p := pInt x151) 4))))))) (fun _ => List.Sublist.refl _))))))) (by unfold M_l_pool; rfl)
end
end My
end
section
set_option Elab.async false
set_option linter.all false
set_option maxRecDepth 100000
set_option maxHeartbeats 4000000
set_option pp.maxSteps 200
namespace My
open PySem PySem.Spec PyProof.Rows L2 L3
section
variable {P : Program} {w : World} {K : PySem.W.Frag} {mg : Str → Option Value} {base : Heap}
theorem sc_l_domains : FnScope ["_law_stream_here", "_law_names_here", "_law_pool_here", "_law_most", "_law_domains_here", "_law_name", "_law_side", "_law_value"] ["_law_stream_here", "_law_names_here", "_law_pool_here", "_law_most"] (defScope (top 14)) := ⟨rfl, rfl, rfl, by decide +kernel, rfl, by decide +kernel, by decide +kernel⟩
theorem ok_l_domains {f : Addr} {fd : FuncData} (C : Ev K mg) (FD : FnP K "_law_domains" (top 14) f fd)   : FnOk P w K mg base CX0 2 f fd ["_law_stream_here", "_law_names_here", "_law_pool_here", "_law_most"] (Sp_OFFF_o (oL pInt) (pL pStr) (pL pInt) pInt M_l_domains (oL (pT2 pStr (pL pInt)))) := by
  have m_int := C.m_int
  have m_len := C.m_len
  obtain ⟨f_l_next, fd_l_next, F_l_next, g_l_next⟩ := C.f_l_next
  have k_l_next := ok_l_next (P := P) (w := w) (base := base) C F_l_next
  have b_l_next : Binds K fd_l_next ["_law_stream_here", "_law_size"] [] := F_l_next.bindsN fun _ _ _ _ _ _ us hl => match us, hl with | [_, _], _ => rfl
  refine fn_OFFF_o FD sc_l_domains rfl fun cdv A outer s H E hr v1 G1 a1 a2 a3 a4 => ?_
  exact s_is (s_T (T := (some ([] : List (Str × List Int))).bind fun x161 => (forS a2 ((x161, a1) : (List (Str × List Int)) × (List Int)) fun x167 s166 => (compM a3 (s166.2) (fun x171 s173 => (M_l_next s173 (4 : Int)).bind fun r175 => if (decide ((0 : Int) < (r175.1))) = true then some (some x171, r175.2) else some (none, r175.2))).bind fun r176 => (some ((cutL (r176.1) none (some a4)) : List Int)).bind fun x177 => (if (decide ((x177.length : Int) = (0 : Int))) = true then (M_l_next (r176.2) (a3.length : Int)).bind fun r183 => (atI a3 (r183.1)).bind fun x184 => (some ([x184] : List Int)).bind fun x185 => some (x185, r183.2) else some (x177, r176.2)).bind fun s180 => (M_l_next (s180.2) (60 : Int)).bind fun r181 => grd ((sm ((s180.1).length : Int) || sm (if (!decide ((r181.1) = (7 : Int))) then 1 else 0 : Int)) = true) (grd ((s166.1).length < sizeLine) (some (((s166.1) ++ [(x167, (cutL (s180.1) none (some (((s180.1).length : Int) * (if (!decide ((r181.1) = (7 : Int))) then 1 else 0 : Int)))))]), r181.2)))).bind fun s168 => some (s168.1, s168.2)) (s_letO (i := 4) (oL (pT2 pStr (pL pInt))) sc_l_domains.nd (o_kd (E := fun (b_ : Unit) => (oL (pT2 pStr (pL pInt))) ([])) (x_nil (pT2 pStr (pL pInt)))) fun (b162 : Unit) x161 v164 => s_T (T := (forS a2 ((x161, a1) : (List (Str × List Int)) × (List Int)) fun x167 s166 => (compM a3 (s166.2) (fun x171 s173 => (M_l_next s173 (4 : Int)).bind fun r175 => if (decide ((0 : Int) < (r175.1))) = true then some (some x171, r175.2) else some (none, r175.2))).bind fun r176 => (some ((cutL (r176.1) none (some a4)) : List Int)).bind fun x177 => (if (decide ((x177.length : Int) = (0 : Int))) = true then (M_l_next (r176.2) (a3.length : Int)).bind fun r183 => (atI a3 (r183.1)).bind fun x184 => (some ([x184] : List Int)).bind fun x185 => some (x185, r183.2) else some (x177, r176.2)).bind fun s180 => (M_l_next (s180.2) (60 : Int)).bind fun r181 => grd ((sm ((s180.1).length : Int) || sm (if (!decide ((r181.1) = (7 : Int))) then 1 else 0 : Int)) = true) (grd ((s166.1).length < sizeLine) (some (((s166.1) ++ [(x167, (cutL (s180.1) none (some (((s180.1).length : Int) * (if (!decide ((r181.1) = (7 : Int))) then 1 else 0 : Int)))))]), r181.2)))).bind fun s168 => some (s168.1, s168.2)) (s_forS PassesOwn.never (fun (b_ : Unit) (s_ : (List (Str × List Int)) × (List Int)) => ([some (pV v1), some ((pL pStr) a2), some ((pL pInt) a3), some (pInt a4), some (pV v164), none, none, none], [⟨v164, (oL (pT2 pStr (pL pInt))) s_.1, none⟩, ⟨v1, (oL pInt) s_.2, some 0⟩])) (fun (b_ : Unit) => (x161, a1)) (i_list (x_var (p := (pL pStr) a2) 1)) (pg_name (i := 5) sc_l_domains.nd rfl (by first | exact .inl rfl | exact .inr rfl)) (tg_name 5) (fun _ => ⟨rfl, rfl, rfl, rfl, rfl, trivial⟩) (fun _ => List.Sublist.refl _) (fun b165 x167 s166 => s_T (T := (compM a3 (s166.2) (fun x171 s173 => (M_l_next s173 (4 : Int)).bind fun r175 => if (decide ((0 : Int) < (r175.1))) = true then some (some x171, r175.2) else some (none, r175.2))).bind fun r176 => (some ((cutL (r176.1) none (some a4)) : List Int)).bind fun x177 => (if (decide ((x177.length : Int) = (0 : Int))) = true then (M_l_next (r176.2) (a3.length : Int)).bind fun r183 => (atI a3 (r183.1)).bind fun x184 => (some ([x184] : List Int)).bind fun x185 => some (x185, r183.2) else some (x177, r176.2)).bind fun s180 => (M_l_next (s180.2) (60 : Int)).bind fun r181 => grd ((sm ((s180.1).length : Int) || sm (if (!decide ((r181.1) = (7 : Int))) then 1 else 0 : Int)) = true) (grd ((s166.1).length < sizeLine) (some (((s166.1) ++ [(x167, (cutL (s180.1) none (some (((s180.1).length : Int) * (if (!decide ((r181.1) = (7 : Int))) then 1 else 0 : Int)))))]), r181.2)))) (s_let (i := 6) (pL pInt) sc_l_domains.nd (x_kd (E := fun (b_ : ((Unit × ((List Int) × (List Int))) × (Unit × Unit))) => (pL pInt) (cutL (b_.1.2.1) none (some a4))) (x_frz (o_kd (E := fun (b_ : ((Unit × ((List Int) × (List Int))) × (Unit × Unit))) => (oL pInt) (cutL (b_.1.2.1) none (some a4))) (x_slL (Ee := pInt) (x_kd (E := fun (b_ : (Unit × ((List Int) × (List Int)))) => (pL pInt) b_.2.1) (x_frz (o_kd (E := fun (b_ : (Unit × ((List Int) × (List Int)))) => (oL pInt) b_.2.1) (x_lc (own := [("_law_value", 7)]) (C := fun (b_ : Unit) (s_ : (List Int)) => [⟨v164, (oL (pT2 pStr (pL pInt))) s166.1, none⟩, ⟨v1, (oL pInt) s_, some 0⟩]) (s0 := fun (b_ : Unit) => s166.2) (s2 := fun (b_ : Unit) (x_ : Int) (s_ : (List Int)) (c_ : (((Unit × Unit) × (Int × (List Int))) × Unit)) => c_.1.2.2) (s3 := fun (b_ : Unit) (x_ : Int) (s_ : (List Int)) (c_ : (((Unit × Unit) × (Int × (List Int))) × Unit)) (d_ : Unit) => c_.1.2.2) (Ex := pInt) (Ee := pInt) (δ := Int) (y := fun (b_ : Unit) (x_ : Int) (s_ : (List Int)) (c_ : (((Unit × Unit) × (Int × (List Int))) × Unit)) (d_ : Unit) => x_) (T2 := fun (b_ : Unit) (x_ : Int) (s_ : (List Int)) (c_ : (((Unit × Unit) × (Int × (List Int))) × Unit)) => some (some x_, c_.1.2.2)) (c := fun (b_ : Unit) (x_ : Int) (s_ : (List Int)) (c_ : (((Unit × Unit) × (Int × (List Int))) × Unit)) => (decide ((0 : Int) < (c_.1.2.1)))) (f := fun (b_ : Unit) (x_ : Int) (s_ : (List Int)) => (M_l_next s_ (4 : Int)).bind fun r175 => if (decide ((0 : Int) < (r175.1))) = true then some (some x_, r175.2) else some (none, r175.2)) sc_l_domains.nd (i_list (x_var (p := (pL pInt) a3) 2)) (blkOk_by (own := [("_law_value", 7)]) (N := ["_law_stream_here", "_law_names_here", "_law_pool_here", "_law_most", "_law_domains_here", "_law_name", "_law_side", "_law_value"]) (sc := defScope (top 14)) (by decide +kernel)) (fun _ _ _ _ _ => pg_name (i := 7) sc_l_domains.nd rfl (by first | exact .inl rfl | exact .inr rfl)) (tw_name 7) (fun _ => rfl) (by exact fun q174 _ _ _ _ _ b170 x171 s173 => t_out (pts_one (t_kd (c := fun (b_ : (((Unit × Unit) × (Int × (List Int))) × Unit)) => (decide ((0 : Int) < (b_.1.2.1)))) (t_gt (x_kd (E := fun (b_ : ((Unit × Unit) × (Int × (List Int)))) => pInt b_.2.1) (x_OF_f (kk := 1) (E1 := (oL pInt)) (E2 := pInt) (s1 := fun (_ : Unit) (_ : Unit) => s173) (v1 := v1) k_l_next (hr.mono (by decide)) g_l_next F_l_next.kp b_l_next 1 (x_var (p := pV v1) 0) (fun _ => x_int (i := 4)) (fun _ _ => rfl))) (fun _ => x_int (i := 0)))))) (by exact fun q174 _ _ _ _ _ b170 x171 s173 _ => x_out (x_var (p := pInt x171) 7)))))) (fun _ => p_none) (fun _ _ => p_some (i := fun (b_ : Unit) => a4) (x_var (p := pInt a4) 3)) (fun _ _ _ => rdF))))) fun (b178 : ((Unit × ((List Int) × (List Int))) × (Unit × Unit))) x177 => s_T (T := (if (decide ((x177.length : Int) = (0 : Int))) = true then (M_l_next (b178.1.2.2) (a3.length : Int)).bind fun r183 => (atI a3 (r183.1)).bind fun x184 => (some ([x184] : List Int)).bind fun x185 => some (x185, r183.2) else some (x177, b178.1.2.2)).bind fun s180 => (M_l_next (s180.2) (60 : Int)).bind fun r181 => grd ((sm ((s180.1).length : Int) || sm (if (!decide ((r181.1) = (7 : Int))) then 1 else 0 : Int)) = true) (grd ((s166.1).length < sizeLine) (some (((s166.1) ++ [(x167, (cutL (s180.1) none (some (((s180.1).length : Int) * (if (!decide ((r181.1) = (7 : Int))) then 1 else 0 : Int)))))]), r181.2)))) (s_ifN (C := fun s_ : (List Int) × (List Int) => ([some (pV v1), some ((pL pStr) a2), some ((pL pInt) a3), some (pInt a4), some (pV v164), some (pStr x167), some ((pL pInt) s_.1), none], [⟨v164, (oL (pT2 pStr (pL pInt))) s166.1, none⟩, ⟨v1, (oL pInt) s_.2, some 0⟩])) (t_kd (c := fun (b_ : (Unit × Unit)) => (decide ((x177.length : Int) = (0 : Int)))) (t_eqI (x_kd (E := fun (b_ : Unit) => pInt (x177.length : Int)) (x_lenL (Ee := pInt) m_len (x_var (p := (pL pInt) x177) 6) (fun _ => rdF))) (fun _ => x_int (i := 0)))) (fun (b179 : (Unit × Unit)) => s_T (T := (M_l_next (b178.1.2.2) (a3.length : Int)).bind fun r183 => (atI a3 (r183.1)).bind fun x184 => (some ([x184] : List Int)).bind fun x185 => some (x185, r183.2)) (s_let (i := 6) (pL pInt) sc_l_domains.nd (x_kd (E := fun (b_ : (((Unit × ((Unit × Unit) × (Int × (List Int)))) × Int) × Unit)) => (pL pInt) ([b_.1.2])) (x_frz (o_kd (E := fun (b_ : (((Unit × ((Unit × Unit) × (Int × (List Int)))) × Int) × Unit)) => (oL pInt) ([b_.1.2])) (x_disp pInt (fun _ => [_]) (a_cons (x_kd (E := fun (b_ : ((Unit × ((Unit × Unit) × (Int × (List Int)))) × Int)) => pInt b_.2) (x_ixL (Ee := pInt) (x_var (p := (pL pInt) a3) 2) (fun _ => x_kd (E := fun (b_ : ((Unit × Unit) × (Int × (List Int)))) => pInt b_.2.1) (x_OF_f (kk := 1) (E1 := (oL pInt)) (E2 := pInt) (s1 := fun (_ : Unit) (_ : Unit) => b178.1.2.2) (v1 := v1) k_l_next (hr.mono (by decide)) g_l_next F_l_next.kp b_l_next 1 (x_var (p := pV v1) 0) (fun _ => x_kd (E := fun (b_ : Unit) => pInt (a3.length : Int)) (x_lenL (Ee := pInt) m_len (x_var (p := (pL pInt) a3) 2) (fun _ => rdF))) (fun _ _ => rfl))) (fun _ _ => rdF))) (fun _ => a_nil)) (fun _ => rfl) (fun _ => by simp))))) fun (b186 : (((Unit × ((Unit × Unit) × (Int × (List Int)))) × Int) × Unit)) x185 => s_end (x185, b186.1.1.2.2.2) rfl ⟨rfl, rfl, rfl, rfl, rfl, rfl, rfl, trivial⟩ (List.Sublist.refl _))) (fun (b179 : (Unit × Unit)) => s_end (x177, b178.1.2.2) rfl ⟨rfl, rfl, rfl, rfl, rfl, rfl, rfl, trivial⟩ (List.Sublist.refl _)) fun (b179 : (Unit × Unit)) s180 => s_T (T := (M_l_next (s180.2) (60 : Int)).bind fun r181 => grd ((sm ((s180.1).length : Int) || sm (if (!decide ((r181.1) = (7 : Int))) then 1 else 0 : Int)) = true) (grd ((s166.1).length < sizeLine) (some (((s166.1) ++ [(x167, (cutL (s180.1) none (some (((s180.1).length : Int) * (if (!decide ((r181.1) = (7 : Int))) then 1 else 0 : Int)))))]), r181.2)))) (s_expr (x_app 0 (x_var (p := pV v164) 4) (fun _ => x_kd (E := fun (b_ : (Unit × ((Unit × (Unit × (Unit × (((Unit × Unit) × (Int × (List Int))) × Unit)))) × Unit))) => (pT2 pStr (pL pInt)) (x167, (cutL (s180.1) none (some (((s180.1).length : Int) * (if (!decide ((b_.2.1.2.2.2.1.2.1) = (7 : Int))) then 1 else 0 : Int)))))) (x_tup2 (a_cons (x_var (p := pStr x167) 5) (fun _ => a_cons (x_kd (E := fun (b_ : (Unit × (Unit × (Unit × (((Unit × Unit) × (Int × (List Int))) × Unit))))) => (pL pInt) (cutL (s180.1) none (some (((s180.1).length : Int) * (if (!decide ((b_.2.2.2.1.2.1) = (7 : Int))) then 1 else 0 : Int))))) (x_frz (o_kd (E := fun (b_ : (Unit × (Unit × (Unit × (((Unit × Unit) × (Int × (List Int))) × Unit))))) => (oL pInt) (cutL (s180.1) none (some (((s180.1).length : Int) * (if (!decide ((b_.2.2.2.1.2.1) = (7 : Int))) then 1 else 0 : Int))))) (x_slL (Ee := pInt) (x_var (p := (pL pInt) s180.1) 6) (fun _ => p_none) (fun _ _ => p_some (i := fun (b_ : (Unit × (((Unit × Unit) × (Int × (List Int))) × Unit))) => (((s180.1).length : Int) * (if (!decide ((b_.2.1.2.1) = (7 : Int))) then 1 else 0 : Int))) (x_kd (E := fun (b_ : (Unit × (((Unit × Unit) × (Int × (List Int))) × Unit))) => pInt (((s180.1).length : Int) * (if (!decide ((b_.2.1.2.1) = (7 : Int))) then 1 else 0 : Int))) (x_mul (x_kd (E := fun (b_ : Unit) => pInt ((s180.1).length : Int)) (x_lenL (Ee := pInt) m_len (x_var (p := (pL pInt) s180.1) 6) (fun _ => rdF))) (fun _ => x_kd (E := fun (b_ : (((Unit × Unit) × (Int × (List Int))) × Unit)) => pInt (if (!decide ((b_.1.2.1) = (7 : Int))) then 1 else 0 : Int)) (x_intB m_int (x_kd (E := fun (b_ : (((Unit × Unit) × (Int × (List Int))) × Unit)) => pBl (!decide ((b_.1.2.1) = (7 : Int)))) (x_neI (x_kd (E := fun (b_ : ((Unit × Unit) × (Int × (List Int)))) => pInt b_.2.1) (x_OF_f (kk := 1) (E1 := (oL pInt)) (E2 := pInt) (s1 := fun (_ : Unit) (_ : Unit) => s180.2) (v1 := v1) k_l_next (hr.mono (by decide)) g_l_next F_l_next.kp b_l_next 1 (x_var (p := pV v1) 0) (fun _ => x_int (i := 60)) (fun _ _ => rfl))) (fun _ => x_int (i := 7))))))))) (fun _ _ _ => rdF))))) (fun _ => a_nil))) pStr (pL pInt) (fun (b : (Unit × ((Unit × (Unit × (Unit × (((Unit × Unit) × (Int × (List Int))) × Unit)))) × Unit))) => x167) (fun (b : (Unit × ((Unit × (Unit × (Unit × (((Unit × Unit) × (Int × (List Int))) × Unit)))) × Unit))) => (cutL (s180.1) none (some (((s180.1).length : Int) * (if (!decide ((b.2.1.2.2.2.1.2.1) = (7 : Int))) then 1 else 0 : Int))))))) (fun _ => rfl) (fun _ _ => rfl)) fun (b182 : (Unit × (Unit × ((Unit × (Unit × (Unit × (((Unit × Unit) × (Int × (List Int))) × Unit)))) × Unit)))) => s_end (((s166.1) ++ [(x167, (cutL (s180.1) none (some (((s180.1).length : Int) * (if (!decide ((b182.2.2.1.2.2.2.1.2.1) = (7 : Int))) then 1 else 0 : Int)))))]), b182.2.2.1.2.2.2.1.2.2) rfl ⟨rfl, rfl, rfl, rfl, rfl, trivial⟩ (List.Sublist.refl _))))) fun b165 s168 => s_T (T := some (s168.1, s168.2)) (s_retV 0 (P := (fun (r : (List (Str × List Int)) × (List Int)) => [⟨v1, (oL pInt) r.2, some 0⟩])) (Ro := (fun (r : (List (Str × List Int)) × (List Int)) => (oL (pT2 pStr (pL pInt))) r.1)) (ι := id) (rv := fun _ => (s168.1, s168.2)) (fun _ _ _ h => h) (x_var (p := pV v164) 4) (fun _ => rfl) (fun _ => List.Sublist.refl _))))) (by unfold M_l_domains; rfl)
end
end My
end
section
set_option Elab.async false
set_option linter.all false
set_option maxRecDepth 100000
set_option maxHeartbeats 4000000
set_option pp.maxSteps 200
namespace My
open PySem PySem.Spec PyProof.Rows L2 L3
section
variable {P : Program} {w : World} {K : PySem.W.Frag} {mg : Str → Option Value} {base : Heap}
theorem sc_l_sides : FnScope ["_law_domains_here", "_law_sides_here", "_law_domain"] ["_law_domains_here"] (defScope (top 15)) := ⟨rfl, rfl, rfl, by decide +kernel, rfl, by decide +kernel, by decide +kernel⟩
theorem ok_l_sides {f : Addr} {fd : FuncData} (C : Ev K mg) (FD : FnP K "_law_sides" (top 15) f fd)   : FnOk P w K mg base CX0 1 f fd ["_law_domains_here"] (Sp_F_o (pL (pT2 pStr (pL pInt))) M_l_sides (oM (κ := Str) (pL pInt))) := by
  have m_list := C.m_list
  refine fn_F_o FD sc_l_sides rfl fun cdv A outer s H E hr  a1 => ?_
  exact s_is (s_T (T := (some (([] : List (Str × List Int)) : List (Str × List Int))).bind fun x187 => (forS a1 (x187 : (List (Str × List Int))) fun x193 s192 => grd (s192.length < sizeLine) (some (dput s192 (x193.1) (x193.2)))).bind fun s194 => some s194) (s_letO (i := 1) (oM (κ := Str) (pL pInt)) sc_l_sides.nd (o_kd (E := fun (b_ : Unit) => (oM (κ := Str) (pL pInt)) ([] : List (Str × List Int))) (x_dict0 (κ := Str) (pL pInt))) fun (b188 : Unit) x187 v190 => s_T (T := (forS a1 (x187 : (List (Str × List Int))) fun x193 s192 => grd (s192.length < sizeLine) (some (dput s192 (x193.1) (x193.2)))).bind fun s194 => some s194) (s_forS PassesOwn.never (fun (b_ : Unit) (s_ : (List (Str × List Int))) => ([some ((pL (pT2 pStr (pL pInt))) a1), some (pV v190), none], [⟨v190, (oM (κ := Str) (pL pInt)) s_, none⟩])) (fun (b_ : Unit) => x187) (i_list (x_var (p := (pL (pT2 pStr (pL pInt))) a1) 0)) (pg_name (i := 2) sc_l_sides.nd rfl (by first | exact .inl rfl | exact .inr rfl)) (tg_name 2) (fun _ => ⟨rfl, rfl, trivial⟩) (fun _ => List.Sublist.refl _) (fun b191 x193 s192 => s_T (T := grd (s192.length < sizeLine) (some (dput s192 (x193.1) (x193.2)))) (s_dput (κ := Str) (Ee := (pL pInt)) 0 hr.units (x_kd (E := fun (b_ : Unit) => (pL pInt) x193.2) (x_frz (o_kd (E := fun (b_ : Unit) => (oL pInt) x193.2) (x_listL (Ee := pInt) m_list (x_kd (E := fun (b_ : Unit) => (pL pInt) x193.2) (x_snd (x_var (p := (pT2 pStr (pL pInt)) x193) 2))) (fun _ => rdF))))) (fun _ => x_var (p := pV v190) 1) (fun _ _ => x_kd (E := fun (b_ : Unit) => pStr x193.1) (x_fst (x_var (p := (pT2 pStr (pL pInt)) x193) 2))) (fun _ _ _ => rfl) fun (b196 : ((Unit × Unit) × Unit)) => s_end (dput s192 (x193.1) (x193.2)) rfl ⟨rfl, rfl, trivial⟩ (List.Sublist.refl _))) fun b191 s194 => s_T (T := some s194) (s_retV 0 (P := (fun _ => [])) (Ro := (oM (κ := Str) (pL pInt))) (ι := id) (rv := fun _ => s194) (fun _ _ _ h => h) (x_var (p := pV v190) 1) (fun _ => rfl) (fun _ => List.Sublist.refl _))))) (by unfold M_l_sides; rfl)
end
end My
end
section
set_option Elab.async false
set_option linter.all false
set_option maxRecDepth 100000
set_option maxHeartbeats 4000000
set_option pp.maxSteps 200
namespace My
open PySem PySem.Spec PyProof.Rows L2 L3
section
variable {P : Program} {w : World} {K : PySem.W.Frag} {mg : Str → Option Value} {base : Heap}
theorem sc_l_is_side : FnScope ["_law_actual", "_law_k", "_law_value"] ["_law_actual"] (defScope (top 16)) := ⟨rfl, rfl, rfl, by decide +kernel, rfl, by decide +kernel, by decide +kernel⟩
theorem ok_l_is_side {f : Addr} {fd : FuncData} (C : Ev K mg) (FD : FnP K "_law_is_side" (top 16) f fd)   : FnOk P w K mg base CX0 2 f fd ["_law_actual"] (Sp_F_f (pL pInt) M_l_is_side pBl) := by
  have m_all := C.m_all
  have m_isinstance := C.m_isinstance
  have m_len := C.m_len
  have m_list := C.m_list
  have m_range := C.m_range
  obtain ⟨f_l_is_integer, fd_l_is_integer, F_l_is_integer, g_l_is_integer⟩ := C.f_l_is_integer
  have k_l_is_integer := ok_l_is_integer (P := P) (w := w) (base := base) C F_l_is_integer
  have b_l_is_integer : Binds K fd_l_is_integer ["_law_actual"] [] := F_l_is_integer.bindsN fun _ _ _ _ _ _ us hl => match us, hl with | [_], _ => rfl
  refine fn_F_f FD sc_l_is_side rfl fun cdv A outer s H E hr  a1 => ?_
  exact s_is (s_T (T := ((if (!true) = true then some (true, ()) else (compM a1 () (fun x205 s207 => if true = true then (M_l_is_integer x205).bind fun r209 => some (some r209, ()) else some (none, ()))).bind fun r210 => some ((!((r210.1).all id)), ()))).bind fun c211 => if c211.1 = true then some false else grd (rg ((a1.length : Int) - (1 : Int)) = true) ((compM (rngL 0 ((a1.length : Int) - (1 : Int)).toNat) () (fun x214 s217 => if true = true then (atI a1 x214).bind fun x219 => (atI a1 (x214 + (1 : Int))).bind fun x220 => some (some (decide (x219 < x220)), ()) else some (none, ()))).bind fun r221 => some ((r221.1).all id))) (s_ifT (ins_F _) (t_kd (c := fun (b_ : (Unit × (Bool × Unit))) => b_.2.1) (PW.pt (w_orM (ΔS := fun (b_ : Unit) (s_ : Unit) => []) (s1 := fun (b_ : Unit) => ()) (s2 := fun (b_ : Unit) (c_ : (Unit × ((List Bool) × Unit))) => ()) (t_kd (c := fun (b_ : Unit) => (!true)) (t_not (t_kd (c := fun (b_ : Unit) => true) (t_val (x_kd (E := fun (b_ : Unit) => pBl true) (x_isi (cn := "list") (fun _ => "list") (fun _ => true) m_isinstance m_list (x_var (p := (pL pInt) a1) 0) (fun _ => tyL) (fun _ => by decide +kernel) (by decide +kernel))))))) (fun _ => w_or1 (t_kd (c := fun (b_ : (Unit × ((List Bool) × Unit))) => (!((b_.2.1).all id))) (t_not (t_kd (c := fun (b_ : (Unit × ((List Bool) × Unit))) => ((b_.2.1).all id)) (t_val (x_kd (E := fun (b_ : (Unit × ((List Bool) × Unit))) => pBl ((b_.2.1).all id)) (x_all m_all (x_kd (E := fun (b_ : (Unit × ((List Bool) × Unit))) => (pL pBl) b_.2.1) (x_frz (o_kd (E := fun (b_ : (Unit × ((List Bool) × Unit))) => (oL pBl) b_.2.1) (x_lc (own := [("_law_value", 2)]) (C := fun (b_ : Unit) (s_ : Unit) => []) (s0 := fun (b_ : Unit) => ()) (s2 := fun (b_ : Unit) (x_ : Int) (s_ : Unit) (c_ : Unit) => ()) (s3 := fun (b_ : Unit) (x_ : Int) (s_ : Unit) (c_ : Unit) (d_ : (Unit × Bool)) => ()) (Ex := pInt) (Ee := pBl) (δ := Bool) (y := fun (b_ : Unit) (x_ : Int) (s_ : Unit) (c_ : Unit) (d_ : (Unit × Bool)) => d_.2) (T2 := fun (b_ : Unit) (x_ : Int) (s_ : Unit) (c_ : Unit) => (M_l_is_integer x_).bind fun r209 => some (some r209, ())) (c := fun (b_ : Unit) (x_ : Int) (s_ : Unit) (c_ : Unit) => true) (f := fun (b_ : Unit) (x_ : Int) (s_ : Unit) => if true = true then (M_l_is_integer x_).bind fun r209 => some (some r209, ()) else some (none, ())) sc_l_is_side.nd (i_list (x_var (p := (pL pInt) a1) 0)) (blkOk_by (own := [("_law_value", 2)]) (N := ["_law_actual", "_law_k", "_law_value"]) (sc := defScope (top 16)) (by decide +kernel)) (fun _ _ _ _ _ => pg_name (i := 2) sc_l_is_side.nd rfl (by first | exact .inl rfl | exact .inr rfl)) (tw_name 2) (fun _ => rfl) (by exact fun q208 _ _ _ _ _ b204 x205 s207 => pts_T) (by exact fun q208 _ _ _ _ _ b204 x205 s207 _ => x_out (x_kd (E := fun (b_ : (Unit × Bool)) => pBl b_.2) (x_F_f (kk := 1) (E1 := pInt) k_l_is_integer (hr.mono (by decide)) g_l_is_integer F_l_is_integer.kp b_l_is_integer (x_var (p := pInt x205) 2)))))))) (fun _ => rdF)))))))) (fun _ => rfl) (fun _ _ => rfl)))) (fun (b212 : (Unit × (Bool × Unit))) => s_T (T := some false) (s_ret (P := (fun _ => [])) (Rp := pBl) (ι := id) (rv := fun (b : Unit) => false) (fun _ _ _ h => h) x_bl (fun _ => List.Sublist.refl _))) fun (b212 : (Unit × (Bool × Unit))) => s_T (T := grd (rg ((a1.length : Int) - (1 : Int)) = true) ((compM (rngL 0 ((a1.length : Int) - (1 : Int)).toNat) () (fun x214 s217 => if true = true then (atI a1 x214).bind fun x219 => (atI a1 (x214 + (1 : Int))).bind fun x220 => some (some (decide (x219 < x220)), ()) else some (none, ()))).bind fun r221 => some ((r221.1).all id))) (s_ret (P := (fun _ => [])) (Rp := pBl) (ι := id) (rv := fun (b : ((Unit × Unit) × ((List Bool) × Unit))) => ((b.2.1).all id)) (fun _ _ _ h => h) (x_kd (x_kd (E := fun (b_ : ((Unit × Unit) × ((List Bool) × Unit))) => pBl ((b_.2.1).all id)) (x_all m_all (x_kd (E := fun (b_ : ((Unit × Unit) × ((List Bool) × Unit))) => (pL pBl) b_.2.1) (x_frz (o_kd (E := fun (b_ : ((Unit × Unit) × ((List Bool) × Unit))) => (oL pBl) b_.2.1) (x_lc (own := [("_law_k", 1)]) (C := fun (b_ : (Unit × Unit)) (s_ : Unit) => []) (s0 := fun (b_ : (Unit × Unit)) => ()) (s2 := fun (b_ : (Unit × Unit)) (x_ : Int) (s_ : Unit) (c_ : Unit) => ()) (s3 := fun (b_ : (Unit × Unit)) (x_ : Int) (s_ : Unit) (c_ : Unit) (d_ : (((Unit × Unit) × Int) × ((Unit × (Unit × Unit)) × Int))) => ()) (Ex := pInt) (Ee := pBl) (δ := Bool) (y := fun (b_ : (Unit × Unit)) (x_ : Int) (s_ : Unit) (c_ : Unit) (d_ : (((Unit × Unit) × Int) × ((Unit × (Unit × Unit)) × Int))) => (decide (d_.1.2 < d_.2.2))) (T2 := fun (b_ : (Unit × Unit)) (x_ : Int) (s_ : Unit) (c_ : Unit) => (atI a1 x_).bind fun x219 => (atI a1 (x_ + (1 : Int))).bind fun x220 => some (some (decide (x219 < x220)), ())) (c := fun (b_ : (Unit × Unit)) (x_ : Int) (s_ : Unit) (c_ : Unit) => true) (f := fun (b_ : (Unit × Unit)) (x_ : Int) (s_ : Unit) => if true = true then (atI a1 x_).bind fun x219 => (atI a1 (x_ + (1 : Int))).bind fun x220 => some (some (decide (x219 < x220)), ()) else some (none, ())) sc_l_is_side.nd (i_rng1 m_range (x_kd (E := fun (b_ : (Unit × Unit)) => pInt ((a1.length : Int) - (1 : Int))) (x_sub (x_kd (E := fun (b_ : Unit) => pInt (a1.length : Int)) (x_lenL (Ee := pInt) m_len (x_var (p := (pL pInt) a1) 0) (fun _ => rdF))) (fun _ => x_int (i := 1))))) (blkOk_by (own := [("_law_k", 1)]) (N := ["_law_actual", "_law_k", "_law_value"]) (sc := defScope (top 16)) (by decide +kernel)) (fun _ _ _ _ _ => pg_name (i := 1) sc_l_is_side.nd rfl (by first | exact .inl rfl | exact .inr rfl)) (tw_name 1) (fun _ => rfl) (by exact fun q218 _ _ _ _ _ b213 x214 s217 => pts_T) (by exact fun q218 _ _ _ _ _ b213 x214 s217 _ => x_out (x_kd (E := fun (b_ : (((Unit × Unit) × Int) × ((Unit × (Unit × Unit)) × Int))) => pBl (decide (b_.1.2 < b_.2.2))) (x_lt (x_kd (E := fun (b_ : ((Unit × Unit) × Int)) => pInt b_.2) (x_ixL (Ee := pInt) (x_var (p := (pL pInt) a1) 0) (fun _ => x_var (p := pInt x214) 1) (fun _ _ => rdF))) (fun _ => x_kd (E := fun (b_ : ((Unit × (Unit × Unit)) × Int)) => pInt b_.2) (x_ixL (Ee := pInt) (x_var (p := (pL pInt) a1) 0) (fun _ => x_kd (E := fun (b_ : (Unit × Unit)) => pInt (x214 + (1 : Int))) (x_add (x_var (p := pInt x214) 1) (fun _ => x_int (i := 1)))) (fun _ _ => rdF)))))))))) (fun _ => rdF)))) (fun _ => List.Sublist.refl _)))) (by unfold M_l_is_side; rfl)
end
end My
end
section
set_option Elab.async false
set_option linter.all false
set_option maxRecDepth 100000
set_option maxHeartbeats 4000000
set_option pp.maxSteps 200
namespace My
open PySem PySem.Spec PyProof.Rows L2 L3
section
variable {P : Program} {w : World} {K : PySem.W.Frag} {mg : Str → Option Value} {base : Heap}
theorem sc_l_sums : FnScope ["_law_totals", "_law_term", "_law_sides_here", "_law_sums_here", "_law_total", "_law_value"] ["_law_totals", "_law_term", "_law_sides_here"] (defScope (top 17)) := ⟨rfl, rfl, rfl, by decide +kernel, rfl, by decide +kernel, by decide +kernel⟩
theorem ok_l_sums {f : Addr} {fd : FuncData} (C : Ev K mg) (FD : FnP K "_law_sums" (top 17) f fd)   : FnOk P w K mg base CX0 1 f fd ["_law_totals", "_law_term", "_law_sides_here"] (Sp_FFF_o (pL pInt) (pT2 pInt pStr) (pM (κ := Str) (pL pInt)) M_l_sums (oL pInt)) := by
  refine fn_FFF_o FD sc_l_sums rfl fun cdv A outer s H E hr  a1 a2 a3 => ?_
  exact s_is (s_T (T := (some ([] : List Int)).bind fun x222 => (forS a1 (x222 : (List Int)) fun x228 s227 => (dget a3 a2.2).bind fun x231 => (forS x231 (s227 : (List Int)) fun x234 s233 => grd ((sm a2.1 || sm x234) = true) (grd (s233.length < sizeLine) (some (s233 ++ [(x228 + (a2.1 * x234))])))).bind fun s235 => some s235).bind fun s229 => some s229) (s_letO (i := 3) (oL pInt) sc_l_sums.nd (o_kd (E := fun (b_ : Unit) => (oL pInt) ([])) (x_nil pInt)) fun (b223 : Unit) x222 v225 => s_T (T := (forS a1 (x222 : (List Int)) fun x228 s227 => (dget a3 a2.2).bind fun x231 => (forS x231 (s227 : (List Int)) fun x234 s233 => grd ((sm a2.1 || sm x234) = true) (grd (s233.length < sizeLine) (some (s233 ++ [(x228 + (a2.1 * x234))])))).bind fun s235 => some s235).bind fun s229 => some s229) (s_forS PassesOwn.never (fun (b_ : Unit) (s_ : (List Int)) => ([some ((pL pInt) a1), some ((pT2 pInt pStr) a2), some ((pM (κ := Str) (pL pInt)) a3), some (pV v225), none, none], [⟨v225, (oL pInt) s_, none⟩])) (fun (b_ : Unit) => x222) (i_list (x_var (p := (pL pInt) a1) 0)) (pg_name (i := 4) sc_l_sums.nd rfl (by first | exact .inl rfl | exact .inr rfl)) (tg_name 4) (fun _ => ⟨rfl, rfl, rfl, rfl, trivial⟩) (fun _ => List.Sublist.refl _) (fun b226 x228 s227 => s_T (T := (dget a3 a2.2).bind fun x231 => (forS x231 (s227 : (List Int)) fun x234 s233 => grd ((sm a2.1 || sm x234) = true) (grd (s233.length < sizeLine) (some (s233 ++ [(x228 + (a2.1 * x234))])))).bind fun s235 => some s235) (s_forS PassesOwn.never (fun (b_ : ((Unit × Unit) × (List Int))) (s_ : (List Int)) => ([some ((pL pInt) a1), some ((pT2 pInt pStr) a2), some ((pM (κ := Str) (pL pInt)) a3), some (pV v225), some (pInt x228), none], [⟨v225, (oL pInt) s_, none⟩])) (fun (b_ : ((Unit × Unit) × (List Int))) => s227) (i_list (x_kd (E := fun (b_ : ((Unit × Unit) × (List Int))) => (pL pInt) b_.2) (x_dget (κ := Str) (Ee := (pL pInt)) hr.units (x_var (p := (pM (κ := Str) (pL pInt)) a3) 2) (fun _ => x_kd (E := fun (b_ : Unit) => pStr a2.2) (x_snd (x_var (p := (pT2 pInt pStr) a2) 1))) (fun _ _ => rdMF)))) (pg_name (i := 5) sc_l_sums.nd rfl (by first | exact .inl rfl | exact .inr rfl)) (tg_name 5) (fun _ => ⟨rfl, rfl, rfl, rfl, rfl, trivial⟩) (fun _ => List.Sublist.refl _) (fun b232 x234 s233 => s_T (T := grd ((sm a2.1 || sm x234) = true) (grd (s233.length < sizeLine) (some (s233 ++ [(x228 + (a2.1 * x234))])))) (s_expr (x_app 0 (x_var (p := pV v225) 3) (fun _ => x_kd (E := fun (b_ : (Unit × (Unit × Unit))) => pInt (x228 + (a2.1 * x234))) (x_add (x_var (p := pInt x228) 4) (fun _ => x_kd (E := fun (b_ : (Unit × Unit)) => pInt (a2.1 * x234)) (x_mul (x_kd (E := fun (b_ : Unit) => pInt a2.1) (x_fst (x_var (p := (pT2 pInt pStr) a2) 1))) (fun _ => x_var (p := pInt x234) 5))))) (fun _ => rfl) (fun _ _ => rfl)) fun (b236 : (Unit × (Unit × (Unit × Unit)))) => s_end (s233 ++ [(x228 + (a2.1 * x234))]) rfl ⟨rfl, rfl, rfl, rfl, rfl, trivial⟩ (List.Sublist.refl _))) fun b232 s235 => s_end s235 rfl ⟨rfl, rfl, rfl, rfl, trivial⟩ (List.Sublist.refl _))) fun b226 s229 => s_T (T := some s229) (s_retV 0 (P := (fun _ => [])) (Ro := (oL pInt)) (ι := id) (rv := fun _ => s229) (fun _ _ _ h => h) (x_var (p := pV v225) 3) (fun _ => rfl) (fun _ => List.Sublist.refl _))))) (by unfold M_l_sums; rfl)
end
end My
end
section
set_option Elab.async false
set_option linter.all false
set_option maxRecDepth 100000
set_option maxHeartbeats 4000000
set_option pp.maxSteps 200
namespace My
open PySem PySem.Spec PyProof.Rows L2 L3
section
variable {P : Program} {w : World} {K : PySem.W.Frag} {mg : Str → Option Value} {base : Heap}
theorem sc_l_heads : FnScope ["_law_terms", "_law_sides_here", "_law_heads_here", "_law_term"] ["_law_terms", "_law_sides_here"] (defScope (top 18)) := ⟨rfl, rfl, rfl, by decide +kernel, rfl, by decide +kernel, by decide +kernel⟩
theorem ok_l_heads {f : Addr} {fd : FuncData} (C : Ev K mg) (FD : FnP K "_law_heads" (top 18) f fd)   : FnOk P w K mg base CX0 2 f fd ["_law_terms", "_law_sides_here"] (Sp_FF_o (pL (pT2 pInt pStr)) (pM (κ := Str) (pL pInt)) M_l_heads (oL (pL pInt))) := by
  obtain ⟨f_l_sums, fd_l_sums, F_l_sums, g_l_sums⟩ := C.f_l_sums
  have k_l_sums := ok_l_sums (P := P) (w := w) (base := base) C F_l_sums
  have b_l_sums : Binds K fd_l_sums ["_law_totals", "_law_term", "_law_sides_here"] [] := F_l_sums.bindsN fun _ _ _ _ _ _ us hl => match us, hl with | [_, _, _], _ => rfl
  refine fn_FF_o FD sc_l_heads rfl fun cdv A outer s H E hr  a1 a2 => ?_
  exact s_is (s_T (T := (some ([[(0 : Int)]] : List (List Int))).bind fun x237 => (forS a1 (x237 : (List (List Int))) fun x243 s242 => (atI s242 (-(1 : Int))).bind fun x246 => (M_l_sums x246 x243 a2).bind fun r247 => grd (s242.length < sizeLine) (some (s242 ++ [r247]))).bind fun s244 => some s244) (s_letO (i := 2) (oL (pL pInt)) sc_l_heads.nd (o_kd (E := fun (b_ : ((Unit × Unit) × Unit)) => (oL (pL pInt)) ([[(0 : Int)]])) (x_disp (pL pInt) (fun _ => [_]) (a_cons (x_kd (E := fun (b_ : (Unit × Unit)) => (pL pInt) ([(0 : Int)])) (x_frz (o_kd (E := fun (b_ : (Unit × Unit)) => (oL pInt) ([(0 : Int)])) (x_disp pInt (fun _ => [_]) (a_cons (x_int (i := 0)) (fun _ => a_nil)) (fun _ => rfl) (fun _ => by simp))))) (fun _ => a_nil)) (fun _ => rfl) (fun _ => by simp))) fun (b238 : ((Unit × Unit) × Unit)) x237 v240 => s_T (T := (forS a1 (x237 : (List (List Int))) fun x243 s242 => (atI s242 (-(1 : Int))).bind fun x246 => (M_l_sums x246 x243 a2).bind fun r247 => grd (s242.length < sizeLine) (some (s242 ++ [r247]))).bind fun s244 => some s244) (s_forS PassesOwn.never (fun (b_ : Unit) (s_ : (List (List Int))) => ([some ((pL (pT2 pInt pStr)) a1), some ((pM (κ := Str) (pL pInt)) a2), some (pV v240), none], [⟨v240, (oL (pL pInt)) s_, none⟩])) (fun (b_ : Unit) => x237) (i_list (x_var (p := (pL (pT2 pInt pStr)) a1) 0)) (pg_name (i := 3) sc_l_heads.nd rfl (by first | exact .inl rfl | exact .inr rfl)) (tg_name 3) (fun _ => ⟨rfl, rfl, rfl, trivial⟩) (fun _ => List.Sublist.refl _) (fun b241 x243 s242 => s_T (T := (atI s242 (-(1 : Int))).bind fun x246 => (M_l_sums x246 x243 a2).bind fun r247 => grd (s242.length < sizeLine) (some (s242 ++ [r247]))) (s_expr (x_app 0 (x_var (p := pV v240) 2) (fun _ => x_kd (E := fun (b_ : ((((Unit × Unit) × (List Int)) × (Unit × Unit)) × (List Int))) => (pL pInt) b_.2) (x_frz (o_kd (E := fun (b_ : ((((Unit × Unit) × (List Int)) × (Unit × Unit)) × (List Int))) => (oL pInt) b_.2) (x_FFF_o (kk := 1) (E1 := (pL pInt)) (E2 := (pT2 pInt pStr)) (E3 := (pM (κ := Str) (pL pInt))) k_l_sums (hr.mono (by decide)) g_l_sums F_l_sums.kp b_l_sums (x_kd (E := fun (b_ : ((Unit × Unit) × (List Int))) => (pL pInt) b_.2) (x_ixL (Ee := (pL pInt)) (x_var (p := pV v240) 2) (fun _ => x_kd (E := fun (b_ : Unit) => pInt (-(1 : Int))) (x_neg (x_int (i := 1)))) (fun _ _ => rdO 0))) (fun _ => x_var (p := (pT2 pInt pStr) x243) 3) (fun _ _ => x_var (p := (pM (κ := Str) (pL pInt)) a2) 1))))) (fun _ => rfl) (fun _ _ => rfl)) fun (b248 : (Unit × ((((Unit × Unit) × (List Int)) × (Unit × Unit)) × (List Int)))) => s_end (s242 ++ [b248.2.2]) rfl ⟨rfl, rfl, rfl, trivial⟩ (List.Sublist.refl _))) fun b241 s244 => s_T (T := some s244) (s_retV 0 (P := (fun _ => [])) (Ro := (oL (pL pInt))) (ι := id) (rv := fun _ => s244) (fun _ _ _ h => h) (x_var (p := pV v240) 2) (fun _ => rfl) (fun _ => List.Sublist.refl _))))) (by unfold M_l_heads; rfl)
end
end My
end
section
set_option Elab.async false
set_option linter.all false
set_option maxRecDepth 100000
set_option maxHeartbeats 4000000
set_option pp.maxSteps 200
namespace My
open PySem PySem.Spec PyProof.Rows L2 L3
section
variable {P : Program} {w : World} {K : PySem.W.Frag} {mg : Str → Option Value} {base : Heap}
theorem sc_l_tails : FnScope ["_law_terms", "_law_sides_here", "_law_tails_here", "_law_k"] ["_law_terms", "_law_sides_here"] (defScope (top 19)) := ⟨rfl, rfl, rfl, by decide +kernel, rfl, by decide +kernel, by decide +kernel⟩
theorem ok_l_tails {f : Addr} {fd : FuncData} (C : Ev K mg) (FD : FnP K "_law_tails" (top 19) f fd)   : FnOk P w K mg base CX0 2 f fd ["_law_terms", "_law_sides_here"] (Sp_FF_f (pL (pT2 pInt pStr)) (pM (κ := Str) (pL pInt)) M_l_tails (pL (pL pInt))) := by
  have m_len := C.m_len
  have m_range := C.m_range
  obtain ⟨f_l_sums, fd_l_sums, F_l_sums, g_l_sums⟩ := C.f_l_sums
  have k_l_sums := ok_l_sums (P := P) (w := w) (base := base) C F_l_sums
  have b_l_sums : Binds K fd_l_sums ["_law_totals", "_law_term", "_law_sides_here"] [] := F_l_sums.bindsN fun _ _ _ _ _ _ us hl => match us, hl with | [_, _, _], _ => rfl
  refine fn_FF_f FD sc_l_tails rfl fun cdv A outer s H E hr  a1 a2 => ?_
  exact s_is (s_T (T := (some ([[(0 : Int)]] : List (List Int))).bind fun x249 => grd (rg (a1.length : Int) = true) ((forS (rngL 0 (a1.length : Int).toNat) (x249 : (List (List Int))) fun x253 s252 => (atI s252 (0 : Int)).bind fun x255 => (atI a1 (((a1.length : Int) - (1 : Int)) - x253)).bind fun x256 => (M_l_sums x255 x256 a2).bind fun r257 => grd (([r257]).length + s252.length ≤ sizeLine) ((some ((([r257]) ++ s252) : List (List Int))).bind fun x258 => some x258)).bind fun s254 => some s254)) (s_let (i := 2) (pL (pL pInt)) sc_l_tails.nd (x_kd (E := fun (b_ : ((Unit × Unit) × Unit)) => (pL (pL pInt)) ([[(0 : Int)]])) (x_frz (o_kd (E := fun (b_ : ((Unit × Unit) × Unit)) => (oL (pL pInt)) ([[(0 : Int)]])) (x_disp (pL pInt) (fun _ => [_]) (a_cons (x_kd (E := fun (b_ : (Unit × Unit)) => (pL pInt) ([(0 : Int)])) (x_frz (o_kd (E := fun (b_ : (Unit × Unit)) => (oL pInt) ([(0 : Int)])) (x_disp pInt (fun _ => [_]) (a_cons (x_int (i := 0)) (fun _ => a_nil)) (fun _ => rfl) (fun _ => by simp))))) (fun _ => a_nil)) (fun _ => rfl) (fun _ => by simp))))) fun (b250 : ((Unit × Unit) × Unit)) x249 => s_T (T := grd (rg (a1.length : Int) = true) ((forS (rngL 0 (a1.length : Int).toNat) (x249 : (List (List Int))) fun x253 s252 => (atI s252 (0 : Int)).bind fun x255 => (atI a1 (((a1.length : Int) - (1 : Int)) - x253)).bind fun x256 => (M_l_sums x255 x256 a2).bind fun r257 => grd (([r257]).length + s252.length ≤ sizeLine) ((some ((([r257]) ++ s252) : List (List Int))).bind fun x258 => some x258)).bind fun s254 => some s254)) (s_forS PassesOwn.never (fun (b_ : Unit) (s_ : (List (List Int))) => ([some ((pL (pT2 pInt pStr)) a1), some ((pM (κ := Str) (pL pInt)) a2), some ((pL (pL pInt)) s_), none], [])) (fun (b_ : Unit) => x249) (i_rng1 m_range (x_kd (E := fun (b_ : Unit) => pInt (a1.length : Int)) (x_lenL (Ee := (pT2 pInt pStr)) m_len (x_var (p := (pL (pT2 pInt pStr)) a1) 0) (fun _ => rdF)))) (pg_name (i := 3) sc_l_tails.nd rfl (by first | exact .inl rfl | exact .inr rfl)) (tg_name 3) (fun _ => ⟨rfl, rfl, rfl, trivial⟩) (fun _ => List.Sublist.refl _) (fun b251 x253 s252 => s_T (T := (atI s252 (0 : Int)).bind fun x255 => (atI a1 (((a1.length : Int) - (1 : Int)) - x253)).bind fun x256 => (M_l_sums x255 x256 a2).bind fun r257 => grd (([r257]).length + s252.length ≤ sizeLine) ((some ((([r257]) ++ s252) : List (List Int))).bind fun x258 => some x258)) (s_let (i := 2) (pL (pL pInt)) sc_l_tails.nd (x_kd (E := fun (b_ : ((((((Unit × Unit) × (List Int)) × (((Unit × ((Unit × Unit) × Unit)) × (Int × Str)) × Unit)) × (List Int)) × Unit) × Unit)) => (pL (pL pInt)) (([b_.1.1.2]) ++ s252)) (x_frz (o_kd (E := fun (b_ : ((((((Unit × Unit) × (List Int)) × (((Unit × ((Unit × Unit) × Unit)) × (Int × Str)) × Unit)) × (List Int)) × Unit) × Unit)) => (oL (pL pInt)) (([b_.1.1.2]) ++ s252)) (x_cat (Ee := (pL pInt)) (x_kd (E := fun (b_ : (((((Unit × Unit) × (List Int)) × (((Unit × ((Unit × Unit) × Unit)) × (Int × Str)) × Unit)) × (List Int)) × Unit)) => (pL (pL pInt)) ([b_.1.2])) (x_frz (o_kd (E := fun (b_ : (((((Unit × Unit) × (List Int)) × (((Unit × ((Unit × Unit) × Unit)) × (Int × Str)) × Unit)) × (List Int)) × Unit)) => (oL (pL pInt)) ([b_.1.2])) (x_disp (pL pInt) (fun _ => [_]) (a_cons (x_kd (E := fun (b_ : ((((Unit × Unit) × (List Int)) × (((Unit × ((Unit × Unit) × Unit)) × (Int × Str)) × Unit)) × (List Int))) => (pL pInt) b_.2) (x_frz (o_kd (E := fun (b_ : ((((Unit × Unit) × (List Int)) × (((Unit × ((Unit × Unit) × Unit)) × (Int × Str)) × Unit)) × (List Int))) => (oL pInt) b_.2) (x_FFF_o (kk := 1) (E1 := (pL pInt)) (E2 := (pT2 pInt pStr)) (E3 := (pM (κ := Str) (pL pInt))) k_l_sums (hr.mono (by decide)) g_l_sums F_l_sums.kp b_l_sums (x_kd (E := fun (b_ : ((Unit × Unit) × (List Int))) => (pL pInt) b_.2) (x_ixL (Ee := (pL pInt)) (x_var (p := (pL (pL pInt)) s252) 2) (fun _ => x_int (i := 0)) (fun _ _ => rdF))) (fun _ => x_kd (E := fun (b_ : ((Unit × ((Unit × Unit) × Unit)) × (Int × Str))) => (pT2 pInt pStr) b_.2) (x_ixL (Ee := (pT2 pInt pStr)) (x_var (p := (pL (pT2 pInt pStr)) a1) 0) (fun _ => x_kd (E := fun (b_ : ((Unit × Unit) × Unit)) => pInt (((a1.length : Int) - (1 : Int)) - x253)) (x_sub (x_kd (E := fun (b_ : (Unit × Unit)) => pInt ((a1.length : Int) - (1 : Int))) (x_sub (x_kd (E := fun (b_ : Unit) => pInt (a1.length : Int)) (x_lenL (Ee := (pT2 pInt pStr)) m_len (x_var (p := (pL (pT2 pInt pStr)) a1) 0) (fun _ => rdF))) (fun _ => x_int (i := 1)))) (fun _ => x_var (p := pInt x253) 3))) (fun _ _ => rdF))) (fun _ _ => x_var (p := (pM (κ := Str) (pL pInt)) a2) 1))))) (fun _ => a_nil)) (fun _ => rfl) (fun _ => by simp))))) (fun _ => x_var (p := (pL (pL pInt)) s252) 2) (fun _ _ => rdF) (fun _ _ => rdF))))) fun (b259 : ((((((Unit × Unit) × (List Int)) × (((Unit × ((Unit × Unit) × Unit)) × (Int × Str)) × Unit)) × (List Int)) × Unit) × Unit)) x258 => s_end x258 rfl ⟨rfl, rfl, rfl, trivial⟩ (List.Sublist.refl _))) fun b251 s254 => s_T (T := some s254) (s_ret (P := (fun _ => [])) (Rp := (pL (pL pInt))) (ι := id) (rv := fun (b : Unit) => s254) (fun _ _ _ h => h) (x_var (p := (pL (pL pInt)) s254) 2) (fun _ => List.Sublist.refl _))))) (by unfold M_l_tails; rfl)
end
end My
end
section
set_option Elab.async false
set_option linter.all false
set_option maxRecDepth 100000
set_option maxHeartbeats 4000000
set_option pp.maxSteps 200
namespace My
open PySem PySem.Spec PyProof.Rows L2 L3
section
variable {P : Program} {w : World} {K : PySem.W.Frag} {mg : Str → Option Value} {base : Heap}
theorem sc_l_within : FnScope ["_law_total", "_law_bottom", "_law_top"] ["_law_total", "_law_bottom", "_law_top"] (defScope (top 20)) := ⟨rfl, rfl, rfl, by decide +kernel, rfl, by decide +kernel, by decide +kernel⟩
theorem ok_l_within {f : Addr} {fd : FuncData} (C : Ev K mg) (FD : FnP K "_law_within" (top 20) f fd)   : FnOk P w K mg base CX0 1 f fd ["_law_total", "_law_bottom", "_law_top"] (Sp_FFF_f pInt (pOp pInt) (pOp pInt) M_l_within pBl) := by
  refine fn_FFF_f FD sc_l_within rfl fun cdv A outer s H E hr  a1 a2 a3 => ?_
  exact s_is (s_T (T := ((if (a2.isNone) = true then some (true, ()) else (a2).bind fun u261 => some ((decide (u261 ≤ a1)), ()))).bind fun c262 => ((if c262.1 = true then ((if (a3.isNone) = true then some (true, ()) else (a3).bind fun u267 => some ((decide (a1 ≤ u267)), ()))).bind fun c268 => some (c268.1, ()) else some (false, ()))).bind fun c269 => some (c269.1)) (s_ret (P := (fun _ => [])) (Rp := pBl) (ι := id) (rv := fun (b : ((Unit × (Bool × Unit)) × (Bool × Unit))) => b.2.1) (fun _ _ _ h => h) (x_kd (x_kd (E := fun (b_ : ((Unit × (Bool × Unit)) × (Bool × Unit))) => pBl b_.2.1) (v_andM (ΔS := fun (b_ : (Unit × (Bool × Unit))) (s_ : Unit) => []) (s1 := fun (b_ : (Unit × (Bool × Unit))) => ()) (s2 := fun (b_ : (Unit × (Bool × Unit))) (c_ : (Unit × (Bool × Unit))) => ()) (x_kd (E := fun (b_ : (Unit × (Bool × Unit))) => pBl b_.2.1) (v_orM (ΔS := fun (b_ : Unit) (s_ : Unit) => []) (s1 := fun (b_ : Unit) => ()) (s2 := fun (b_ : Unit) (c_ : (Unit × (Unit × Int))) => ()) (x_kd (E := fun (b_ : Unit) => pBl (a2.isNone)) (x_isN nnInt (x_var (p := (pOp pInt) a2) 1))) (fun _ => v_one (x_kd (E := fun (b_ : (Unit × (Unit × Int))) => pBl (decide (b_.2.2 ≤ a1))) (x_ge (x_var (p := pInt a1) 0) (fun _ => x_some (Ee := pInt) (x_var (p := (pOp pInt) a2) 1))))) (fun _ => rfl) (fun _ _ => rfl))) (fun _ => v_one (x_kd (E := fun (b_ : (Unit × (Bool × Unit))) => pBl b_.2.1) (v_orM (ΔS := fun (b_ : Unit) (s_ : Unit) => []) (s1 := fun (b_ : Unit) => ()) (s2 := fun (b_ : Unit) (c_ : (Unit × (Unit × Int))) => ()) (x_kd (E := fun (b_ : Unit) => pBl (a3.isNone)) (x_isN nnInt (x_var (p := (pOp pInt) a3) 2))) (fun _ => v_one (x_kd (E := fun (b_ : (Unit × (Unit × Int))) => pBl (decide (a1 ≤ b_.2.2))) (x_le (x_var (p := pInt a1) 0) (fun _ => x_some (Ee := pInt) (x_var (p := (pOp pInt) a3) 2))))) (fun _ => rfl) (fun _ _ => rfl)))) (fun _ => rfl) (fun _ _ => rfl)))) (fun _ => List.Sublist.refl _))) (by unfold M_l_within; rfl)
end
end My
end
section
set_option Elab.async false
set_option linter.all false
set_option maxRecDepth 100000
set_option maxHeartbeats 4000000
set_option pp.maxSteps 200
namespace My
open PySem PySem.Spec PyProof.Rows L2 L3
section
variable {P : Program} {w : World} {K : PySem.W.Frag} {mg : Str → Option Value} {base : Heap}
theorem sc_l_leads : FnScope ["_law_total", "_law_tails_here", "_law_bottom", "_law_top", "_law_tail"] ["_law_total", "_law_tails_here", "_law_bottom", "_law_top"] (defScope (top 21)) := ⟨rfl, rfl, rfl, by decide +kernel, rfl, by decide +kernel, by decide +kernel⟩
theorem ok_l_leads {f : Addr} {fd : FuncData} (C : Ev K mg) (FD : FnP K "_law_leads" (top 21) f fd)   : FnOk P w K mg base CX0 2 f fd ["_law_total", "_law_tails_here", "_law_bottom", "_law_top"] (Sp_FFFF_f pInt (pL pInt) (pOp pInt) (pOp pInt) M_l_leads pBl) := by
  obtain ⟨f_l_within, fd_l_within, F_l_within, g_l_within⟩ := C.f_l_within
  have k_l_within := ok_l_within (P := P) (w := w) (base := base) C F_l_within
  have b_l_within : Binds K fd_l_within ["_law_total", "_law_bottom", "_law_top"] [] := F_l_within.bindsN fun _ _ _ _ _ _ us hl => match us, hl with | [_, _, _], _ => rfl
  refine fn_FFFF_f FD sc_l_leads rfl fun cdv A outer s H E hr  a1 a2 a3 a4 => ?_
  exact s_is (s_T (T := (forL a2 (() : Unit) fun x272 s271 => (M_l_within (a1 + x272) a3 a4).bind fun r274 => if r274 = true then inB (some (Tm.rt true)) else some (Bo.nx ())).bind (boK (fun s273 => some false) id)) (s_for PassesOwn.never (fun (b_ : Unit) (s_ : Unit) => ([some (pInt a1), some ((pL pInt) a2), some ((pOp pInt) a3), some ((pOp pInt) a4), none], [])) (fun (b_ : Unit) => ()) (ι := id) (R := (RF ⟨H, []⟩ (fun _ => []) pBl)) (i_list (x_var (p := (pL pInt) a2) 1)) (pg_name (i := 4) sc_l_leads.nd rfl (by first | exact .inl rfl | exact .inr rfl)) (tg_name 4) (fun _ => ⟨rfl, rfl, rfl, rfl, trivial⟩) (fun _ => List.Sublist.refl _) (fun b270 x272 s271 => s_T (T := (M_l_within (a1 + x272) a3 a4).bind fun r274 => if r274 = true then inB (some (Tm.rt true)) else some (Bo.nx ())) (s_ifB ins_T (t_kd (c := fun (b_ : (((Unit × Unit) × (Unit × Unit)) × Bool)) => b_.2) (t_val (x_kd (E := fun (b_ : (((Unit × Unit) × (Unit × Unit)) × Bool)) => pBl b_.2) (x_FFF_f (kk := 1) (E1 := pInt) (E2 := (pOp pInt)) (E3 := (pOp pInt)) k_l_within (hr.mono (by decide)) g_l_within F_l_within.kp b_l_within (x_kd (E := fun (b_ : (Unit × Unit)) => pInt (a1 + x272)) (x_add (x_var (p := pInt a1) 0) (fun _ => x_var (p := pInt x272) 4))) (fun _ => x_var (p := (pOp pInt) a3) 2) (fun _ _ => x_var (p := (pOp pInt) a4) 3))))) (fun (b275 : (((Unit × Unit) × (Unit × Unit)) × Bool)) => s_T (T := some (Tm.rt true)) (s_ret (P := (fun _ => [])) (Rp := pBl) (ι := Tm.rt) (rv := fun (b : Unit) => true) (fun _ _ _ h => h) x_bl (fun _ => List.Sublist.refl _))) fun (b275 : (((Unit × Unit) × (Unit × Unit)) × Bool)) => s_endB () ⟨rfl, rfl, rfl, rfl, trivial⟩ (List.Sublist.refl _))) (fun b270 s273 => s_T (T := some false) (s_ret (P := (fun _ => [])) (Rp := pBl) (ι := id) (rv := fun (b : Unit) => false) (fun _ _ _ h => h) x_bl (fun _ => List.Sublist.refl _))) (fun _ _ _ h => h))) (by unfold M_l_leads; rfl)
end
end My
end
section
set_option Elab.async false
set_option linter.all false
set_option maxRecDepth 100000
set_option maxHeartbeats 4000000
set_option pp.maxSteps 200
namespace My
open PySem PySem.Spec PyProof.Rows L2 L3
section
variable {P : Program} {w : World} {K : PySem.W.Frag} {mg : Str → Option Value} {base : Heap}
theorem sc_l_layers_due : FnScope ["_law_told", "_law_expected", "_law_k"] ["_law_told", "_law_expected"] (defScope (top 22)) := ⟨rfl, rfl, rfl, by decide +kernel, rfl, by decide +kernel, by decide +kernel⟩
theorem ok_l_layers_due {f : Addr} {fd : FuncData} (C : Ev K mg) (FD : FnP K "_law_layers_due" (top 22) f fd)   : FnOk P w K mg base CX0 3 f fd ["_law_told", "_law_expected"] (Sp_OF_f (oLO (oL pInt)) (pL (pL pInt)) M_l_layers_due pBl) := by
  have m_isinstance := C.m_isinstance
  have m_len := C.m_len
  have m_list := C.m_list
  have m_range := C.m_range
  obtain ⟨f_l_is_side, fd_l_is_side, F_l_is_side, g_l_is_side⟩ := C.f_l_is_side
  have k_l_is_side := ok_l_is_side (P := P) (w := w) (base := base) C F_l_is_side
  have b_l_is_side : Binds K fd_l_is_side ["_law_actual"] [] := F_l_is_side.bindsN fun _ _ _ _ _ _ us hl => match us, hl with | [_], _ => rfl
  refine fn_OF_f FD sc_l_layers_due rfl fun cdv A outer s H E hr v1 G1 a1 a2 => ?_
  exact s_is (s_T (T := if ((!true) || (!decide ((a1.length : Int) = (a2.length : Int)))) = true then some (false, a1) else grd (rg (a2.length : Int) = true) ((forL (rngL 0 (a2.length : Int).toNat) (a1 : (List (List Int))) fun x279 s278 => (atI s278 x279).bind fun x281 => (M_l_is_side x281).bind fun r282 => ((if (!r282) = true then some (true, ()) else (atI s278 x279).bind fun x285 => (atI a2 x279).bind fun x286 => some ((!decide (x285 = x286)), ()))).bind fun c287 => if c287.1 = true then inB (some (Tm.rt (false, s278))) else (ixN s278.length x279).bind fun m289 => grd ((s278.getD m289 []).length < sizeLine) (some (Bo.nx (s278.set m289 (s278.getD m289 [] ++ [((10 : Int) ^ (25 : Int).toNat)]))))).bind (boK (fun s280 => some (true, s280)) id))) (s_ifT (ins_F _) (t_kd (c := fun (b_ : Unit) => ((!true) || (!decide ((a1.length : Int) = (a2.length : Int))))) (t_lockG (d := (oLO (oL pInt)) a1) 0 0 (PW.pt (w_or (t_totV (!true) () (fun _ => rfl) (by exact (t_kd (c := fun (b_ : Unit) => (!true)) (t_not (t_kd (c := fun (b_ : Unit) => true) (t_val (x_kd (E := fun (b_ : Unit) => pBl true) (x_isi (cn := "list") (fun _ => "list") (fun _ => true) m_isinstance m_list (y_var (p := (pL (pL pInt)) a1) 0) (fun _ => tyL) (fun _ => by decide +kernel) (by decide +kernel))))))))) (w_or1 (t_totV (!decide ((a1.length : Int) = (a2.length : Int))) ((), ()) (fun _ => rfl) (by exact (t_kd (c := fun (b_ : (Unit × Unit)) => (!decide ((a1.length : Int) = (a2.length : Int)))) (t_neI (x_kd (E := fun (b_ : Unit) => pInt (a1.length : Int)) (x_lenL (Ee := (pL pInt)) m_len (y_var (p := (pL (pL pInt)) a1) 0) (fun _ => rdF))) (fun _ => x_kd (E := fun (b_ : Unit) => pInt (a2.length : Int)) (x_lenL (Ee := (pL pInt)) m_len (y_var (p := (pL (pL pInt)) a2) 1) (fun _ => rdF)))))))))))) (fun (b276 : Unit) => s_T (T := some (false, a1)) (s_ret (P := (fun (r : Bool × (List (List Int))) => [⟨v1, (oLO (oL pInt)) r.2, some 0⟩])) (Rp := (fun (r : Bool × (List (List Int))) => pBl r.1)) (ι := id) (rv := fun (b : Unit) => (false, a1)) (fun _ _ _ h => h) x_bl (fun _ => List.Sublist.refl _))) fun (b276 : Unit) => s_T (T := grd (rg (a2.length : Int) = true) ((forL (rngL 0 (a2.length : Int).toNat) (a1 : (List (List Int))) fun x279 s278 => (atI s278 x279).bind fun x281 => (M_l_is_side x281).bind fun r282 => ((if (!r282) = true then some (true, ()) else (atI s278 x279).bind fun x285 => (atI a2 x279).bind fun x286 => some ((!decide (x285 = x286)), ()))).bind fun c287 => if c287.1 = true then inB (some (Tm.rt (false, s278))) else (ixN s278.length x279).bind fun m289 => grd ((s278.getD m289 []).length < sizeLine) (some (Bo.nx (s278.set m289 (s278.getD m289 [] ++ [((10 : Int) ^ (25 : Int).toNat)]))))).bind (boK (fun s280 => some (true, s280)) id))) (s_for PassesOwn.never (fun (b_ : Unit) (s_ : (List (List Int))) => ([some (pV v1), some ((pL (pL pInt)) a2), none], [⟨v1, (oLO (oL pInt)) s_, some 0⟩])) (fun (b_ : Unit) => a1) (ι := id) (R := (RF ⟨H, [G1]⟩ (fun (r : Bool × (List (List Int))) => [⟨v1, (oLO (oL pInt)) r.2, some 0⟩]) (fun (r : Bool × (List (List Int))) => pBl r.1))) (i_rng1 m_range (x_kd (E := fun (b_ : Unit) => pInt (a2.length : Int)) (x_lenL (Ee := (pL pInt)) m_len (x_var (p := (pL (pL pInt)) a2) 1) (fun _ => rdF)))) (pg_name (i := 2) sc_l_layers_due.nd rfl (by first | exact .inl rfl | exact .inr rfl)) (tg_name 2) (fun _ => ⟨rfl, rfl, trivial⟩) (fun _ => List.Sublist.refl _) (fun b277 x279 s278 => s_T (T := (atI s278 x279).bind fun x281 => (M_l_is_side x281).bind fun r282 => ((if (!r282) = true then some (true, ()) else (atI s278 x279).bind fun x285 => (atI a2 x279).bind fun x286 => some ((!decide (x285 = x286)), ()))).bind fun c287 => if c287.1 = true then inB (some (Tm.rt (false, s278))) else (ixN s278.length x279).bind fun m289 => grd ((s278.getD m289 []).length < sizeLine) (some (Bo.nx (s278.set m289 (s278.getD m289 [] ++ [((10 : Int) ^ (25 : Int).toNat)]))))) (s_ifB ins_T (t_kd (c := fun (b_ : ((((Unit × Unit) × (List Int)) × Bool) × (Bool × Unit))) => b_.2.1) (t_lockG (d := (oLO (oL pInt)) s278) 0 0 (PW.pt (w_orM (ΔS := fun (b_ : (((Unit × Unit) × (List Int)) × Bool)) (s_ : Unit) => []) (s1 := fun (b_ : (((Unit × Unit) × (List Int)) × Bool)) => ()) (s2 := fun (b_ : (((Unit × Unit) × (List Int)) × Bool)) (c_ : (((Unit × Unit) × (List Int)) × ((Unit × Unit) × (List Int)))) => ()) (t_kd (c := fun (b_ : (((Unit × Unit) × (List Int)) × Bool)) => (!b_.2)) (t_not (t_kd (c := fun (b_ : (((Unit × Unit) × (List Int)) × Bool)) => b_.2) (t_val (x_kd (E := fun (b_ : (((Unit × Unit) × (List Int)) × Bool)) => pBl b_.2) (x_F_f (kk := 2) (E1 := (pL pInt)) k_l_is_side (hr.mono (by decide)) g_l_is_side F_l_is_side.kp b_l_is_side (x_kd (E := fun (b_ : ((Unit × Unit) × (List Int))) => (pL pInt) b_.2) (x_ixL (Ee := (pL pInt)) (x_var (p := (pL (pL pInt)) s278) 0) (fun _ => x_var (p := pInt x279) 2) (fun _ _ => rdF))))))))) (fun _ => w_or1 (t_kd (c := fun (b_ : (((Unit × Unit) × (List Int)) × ((Unit × Unit) × (List Int)))) => (!decide (b_.1.2 = b_.2.2))) (t_neL hr.units dtInt (x_kd (E := fun (b_ : ((Unit × Unit) × (List Int))) => (pL pInt) b_.2) (x_ixL (Ee := (pL pInt)) (x_var (p := (pL (pL pInt)) s278) 0) (fun _ => x_var (p := pInt x279) 2) (fun _ _ => rdF))) (fun _ => x_kd (E := fun (b_ : ((Unit × Unit) × (List Int))) => (pL pInt) b_.2) (x_ixL (Ee := (pL pInt)) (x_var (p := (pL (pL pInt)) a2) 1) (fun _ => x_var (p := pInt x279) 2) (fun _ _ => rdF))) (fun _ _ => rdF) (fun _ _ => rdF)))) (fun _ => rfl) (fun _ _ => rfl))))) (fun (b288 : ((((Unit × Unit) × (List Int)) × Bool) × (Bool × Unit))) => s_T (T := some (Tm.rt (false, s278))) (s_ret (P := (fun (r : Bool × (List (List Int))) => [⟨v1, (oLO (oL pInt)) r.2, some 0⟩])) (Rp := (fun (r : Bool × (List (List Int))) => pBl r.1)) (ι := Tm.rt) (rv := fun (b : Unit) => (false, s278)) (fun _ _ _ h => h) x_bl (fun _ => List.Sublist.refl _))) fun (b288 : ((((Unit × Unit) × (List Int)) × Bool) × (Bool × Unit))) => s_T (T := (ixN s278.length x279).bind fun m289 => grd ((s278.getD m289 []).length < sizeLine) (some (Bo.nx (s278.set m289 (s278.getD m289 [] ++ [((10 : Int) ^ (25 : Int).toNat)]))))) (s_expr (x_appI 0 (x_var (p := pV v1) 0) (fun _ => x_var (p := pInt x279) 2) (fun _ _ _ => x_kd (E := fun (b_ : (Unit × Unit)) => pInt ((10 : Int) ^ (25 : Int).toNat)) (x_pow (x_int (i := 10)) (fun _ => x_int (i := 25)) (fun _ _ => by decide))) rfl) fun (b290 : (((Unit × Unit) × Nat) × (Unit × Unit))) => s_endB (s278.set b290.1.2 (s278.getD b290.1.2 [] ++ [((10 : Int) ^ (25 : Int).toNat)])) ⟨rfl, rfl, trivial⟩ (List.Sublist.refl _)))) (fun b277 s280 => s_T (T := some (true, s280)) (s_ret (P := (fun (r : Bool × (List (List Int))) => [⟨v1, (oLO (oL pInt)) r.2, some 0⟩])) (Rp := (fun (r : Bool × (List (List Int))) => pBl r.1)) (ι := id) (rv := fun (b : Unit) => (true, s280)) (fun _ _ _ h => h) x_bl (fun _ => List.Sublist.refl _))) (fun _ _ _ h => h)))) (by unfold M_l_layers_due; rfl)
end
end My
end
section
set_option Elab.async false
set_option linter.all false
set_option maxRecDepth 100000
set_option maxHeartbeats 4000000
set_option pp.maxSteps 200
namespace My
open PySem PySem.Spec PyProof.Rows L2 L3
section
variable {P : Program} {w : World} {K : PySem.W.Frag} {mg : Str → Option Value} {base : Heap}
theorem sc_l_bounds : FnScope ["_law_stream_here", "_law_total", "_law_way", "_law_bottom", "_law_top"] ["_law_stream_here", "_law_total"] (defScope (top 23)) := ⟨rfl, rfl, rfl, by decide +kernel, rfl, by decide +kernel, by decide +kernel⟩
theorem ok_l_bounds {f : Addr} {fd : FuncData} (C : Ev K mg) (FD : FnP K "_law_bounds" (top 23) f fd)   : FnOk P w K mg base CX0 2 f fd ["_law_stream_here", "_law_total"] (Sp_OF_o (oL pInt) pInt M_l_bounds (oL (pOp pInt))) := by
  obtain ⟨f_l_next, fd_l_next, F_l_next, g_l_next⟩ := C.f_l_next
  have k_l_next := ok_l_next (P := P) (w := w) (base := base) C F_l_next
  have b_l_next : Binds K fd_l_next ["_law_stream_here", "_law_size"] [] := F_l_next.bindsN fun _ _ _ _ _ _ us hl => match us, hl with | [_, _], _ => rfl
  refine fn_OF_o FD sc_l_bounds rfl fun cdv A outer s H E hr v1 G1 a1 a2 => ?_
  exact s_is (s_T (T := (M_l_next a1 (9 : Int)).bind fun r291 => (some (r291.1 : Int)).bind fun x292 => (M_l_next (r291.2) (3 : Int)).bind fun r294 => (some ((a2 - (r294.1)) : Int)).bind fun x295 => (M_l_next (r294.2) (3 : Int)).bind fun r297 => (some ((a2 + (r297.1)) : Int)).bind fun x298 => if (decide (x292 = (0 : Int))) = true then some ([(none : Option Int), (none : Option Int)], r297.2) else if (decide (x292 = (1 : Int))) = true then some ([(none : Option Int), (some x298)], r297.2) else if (decide (x292 = (2 : Int))) = true then some ([(some x295), (none : Option Int)], r297.2) else if (decide (x292 = (3 : Int))) = true then some ([(some a2), (some a2)], r297.2) else if (decide (x292 = (4 : Int))) = true then some ([(some (a2 + (1 : Int))), (some a2)], r297.2) else if (decide (x292 = (5 : Int))) = true then some ([(none : Option Int), (some (a2 - (1 : Int)))], r297.2) else if (decide (x292 = (6 : Int))) = true then some ([(some (a2 + (1 : Int))), (none : Option Int)], r297.2) else if (decide (x292 = (8 : Int))) = true then grd ((sm (5 : Int) || sm ((10 : Int) ^ (19 : Int).toNat)) = true) (grd ((sm (5 : Int) || sm ((10 : Int) ^ (19 : Int).toNat)) = true) (some ([(some (a2 - ((5 : Int) * ((10 : Int) ^ (19 : Int).toNat)))), (some (a2 + ((5 : Int) * ((10 : Int) ^ (19 : Int).toNat))))], r297.2))) else some ([(some x295), (some x298)], r297.2)) (s_let (i := 2) pInt sc_l_bounds.nd (x_kd (E := fun (b_ : ((Unit × Unit) × (Int × (List Int)))) => pInt b_.2.1) (x_OF_f (kk := 1) (E1 := (oL pInt)) (E2 := pInt) (s1 := fun (_ : Unit) (_ : Unit) => a1) (v1 := v1) k_l_next (hr.mono (by decide)) g_l_next F_l_next.kp b_l_next 0 (x_var (p := pV v1) 0) (fun _ => x_int (i := 9)) (fun _ _ => rfl))) fun (b293 : ((Unit × Unit) × (Int × (List Int)))) x292 => s_T (T := (M_l_next (b293.2.2) (3 : Int)).bind fun r294 => (some ((a2 - (r294.1)) : Int)).bind fun x295 => (M_l_next (r294.2) (3 : Int)).bind fun r297 => (some ((a2 + (r297.1)) : Int)).bind fun x298 => if (decide (x292 = (0 : Int))) = true then some ([(none : Option Int), (none : Option Int)], r297.2) else if (decide (x292 = (1 : Int))) = true then some ([(none : Option Int), (some x298)], r297.2) else if (decide (x292 = (2 : Int))) = true then some ([(some x295), (none : Option Int)], r297.2) else if (decide (x292 = (3 : Int))) = true then some ([(some a2), (some a2)], r297.2) else if (decide (x292 = (4 : Int))) = true then some ([(some (a2 + (1 : Int))), (some a2)], r297.2) else if (decide (x292 = (5 : Int))) = true then some ([(none : Option Int), (some (a2 - (1 : Int)))], r297.2) else if (decide (x292 = (6 : Int))) = true then some ([(some (a2 + (1 : Int))), (none : Option Int)], r297.2) else if (decide (x292 = (8 : Int))) = true then grd ((sm (5 : Int) || sm ((10 : Int) ^ (19 : Int).toNat)) = true) (grd ((sm (5 : Int) || sm ((10 : Int) ^ (19 : Int).toNat)) = true) (some ([(some (a2 - ((5 : Int) * ((10 : Int) ^ (19 : Int).toNat)))), (some (a2 + ((5 : Int) * ((10 : Int) ^ (19 : Int).toNat))))], r297.2))) else some ([(some x295), (some x298)], r297.2)) (s_let (i := 3) pInt sc_l_bounds.nd (x_kd (E := fun (b_ : (Unit × ((Unit × Unit) × (Int × (List Int))))) => pInt (a2 - (b_.2.2.1))) (x_sub (x_var (p := pInt a2) 1) (fun _ => x_kd (E := fun (b_ : ((Unit × Unit) × (Int × (List Int)))) => pInt b_.2.1) (x_OF_f (kk := 1) (E1 := (oL pInt)) (E2 := pInt) (s1 := fun (_ : Unit) (_ : Unit) => b293.2.2) (v1 := v1) k_l_next (hr.mono (by decide)) g_l_next F_l_next.kp b_l_next 0 (x_var (p := pV v1) 0) (fun _ => x_int (i := 3)) (fun _ _ => rfl))))) fun (b296 : (Unit × ((Unit × Unit) × (Int × (List Int))))) x295 => s_T (T := (M_l_next (b296.2.2.2) (3 : Int)).bind fun r297 => (some ((a2 + (r297.1)) : Int)).bind fun x298 => if (decide (x292 = (0 : Int))) = true then some ([(none : Option Int), (none : Option Int)], r297.2) else if (decide (x292 = (1 : Int))) = true then some ([(none : Option Int), (some x298)], r297.2) else if (decide (x292 = (2 : Int))) = true then some ([(some x295), (none : Option Int)], r297.2) else if (decide (x292 = (3 : Int))) = true then some ([(some a2), (some a2)], r297.2) else if (decide (x292 = (4 : Int))) = true then some ([(some (a2 + (1 : Int))), (some a2)], r297.2) else if (decide (x292 = (5 : Int))) = true then some ([(none : Option Int), (some (a2 - (1 : Int)))], r297.2) else if (decide (x292 = (6 : Int))) = true then some ([(some (a2 + (1 : Int))), (none : Option Int)], r297.2) else if (decide (x292 = (8 : Int))) = true then grd ((sm (5 : Int) || sm ((10 : Int) ^ (19 : Int).toNat)) = true) (grd ((sm (5 : Int) || sm ((10 : Int) ^ (19 : Int).toNat)) = true) (some ([(some (a2 - ((5 : Int) * ((10 : Int) ^ (19 : Int).toNat)))), (some (a2 + ((5 : Int) * ((10 : Int) ^ (19 : Int).toNat))))], r297.2))) else some ([(some x295), (some x298)], r297.2)) (s_let (i := 4) pInt sc_l_bounds.nd (x_kd (E := fun (b_ : (Unit × ((Unit × Unit) × (Int × (List Int))))) => pInt (a2 + (b_.2.2.1))) (x_add (x_var (p := pInt a2) 1) (fun _ => x_kd (E := fun (b_ : ((Unit × Unit) × (Int × (List Int)))) => pInt b_.2.1) (x_OF_f (kk := 1) (E1 := (oL pInt)) (E2 := pInt) (s1 := fun (_ : Unit) (_ : Unit) => b296.2.2.2) (v1 := v1) k_l_next (hr.mono (by decide)) g_l_next F_l_next.kp b_l_next 0 (x_var (p := pV v1) 0) (fun _ => x_int (i := 3)) (fun _ _ => rfl))))) fun (b299 : (Unit × ((Unit × Unit) × (Int × (List Int))))) x298 => s_T (T := if (decide (x292 = (0 : Int))) = true then some ([(none : Option Int), (none : Option Int)], b299.2.2.2) else if (decide (x292 = (1 : Int))) = true then some ([(none : Option Int), (some x298)], b299.2.2.2) else if (decide (x292 = (2 : Int))) = true then some ([(some x295), (none : Option Int)], b299.2.2.2) else if (decide (x292 = (3 : Int))) = true then some ([(some a2), (some a2)], b299.2.2.2) else if (decide (x292 = (4 : Int))) = true then some ([(some (a2 + (1 : Int))), (some a2)], b299.2.2.2) else if (decide (x292 = (5 : Int))) = true then some ([(none : Option Int), (some (a2 - (1 : Int)))], b299.2.2.2) else if (decide (x292 = (6 : Int))) = true then some ([(some (a2 + (1 : Int))), (none : Option Int)], b299.2.2.2) else if (decide (x292 = (8 : Int))) = true then grd ((sm (5 : Int) || sm ((10 : Int) ^ (19 : Int).toNat)) = true) (grd ((sm (5 : Int) || sm ((10 : Int) ^ (19 : Int).toNat)) = true) (some ([(some (a2 - ((5 : Int) * ((10 : Int) ^ (19 : Int).toNat)))), (some (a2 + ((5 : Int) * ((10 : Int) ^ (19 : Int).toNat))))], b299.2.2.2))) else some ([(some x295), (some x298)], b299.2.2.2)) (s_ifT (ins_F _) (t_kd (c := fun (b_ : (Unit × Unit)) => (decide (x292 = (0 : Int)))) (t_eqI (x_var (p := pInt x292) 2) (fun _ => x_int (i := 0)))) (fun (b300 : (Unit × Unit)) => s_T (T := some ([(none : Option Int), (none : Option Int)], b299.2.2.2)) (s_retO (P := (fun (r : (List (Option Int)) × (List Int)) => [⟨v1, (oL pInt) r.2, some 0⟩])) (Ro := (fun (r : (List (Option Int)) × (List Int)) => (oL (pOp pInt)) r.1)) (ι := id) (rv := fun (b : (Unit × (Unit × Unit))) => ([(none : Option Int), (none : Option Int)], b299.2.2.2)) (fun _ _ _ h => h) (o_kd (o_kd (E := fun (b_ : (Unit × (Unit × Unit))) => (oL (pOp pInt)) ([(none : Option Int), (none : Option Int)])) (x_disp (pOp pInt) (fun _ => [_, _]) (a_cons (co_none (E := pInt) x_non) (fun _ => a_cons (co_none (E := pInt) x_non) (fun _ => a_nil))) (fun _ => rfl) (fun _ => by simp)))) (fun _ => List.Sublist.refl _))) fun (b300 : (Unit × Unit)) => s_T (T := if (decide (x292 = (1 : Int))) = true then some ([(none : Option Int), (some x298)], b299.2.2.2) else if (decide (x292 = (2 : Int))) = true then some ([(some x295), (none : Option Int)], b299.2.2.2) else if (decide (x292 = (3 : Int))) = true then some ([(some a2), (some a2)], b299.2.2.2) else if (decide (x292 = (4 : Int))) = true then some ([(some (a2 + (1 : Int))), (some a2)], b299.2.2.2) else if (decide (x292 = (5 : Int))) = true then some ([(none : Option Int), (some (a2 - (1 : Int)))], b299.2.2.2) else if (decide (x292 = (6 : Int))) = true then some ([(some (a2 + (1 : Int))), (none : Option Int)], b299.2.2.2) else if (decide (x292 = (8 : Int))) = true then grd ((sm (5 : Int) || sm ((10 : Int) ^ (19 : Int).toNat)) = true) (grd ((sm (5 : Int) || sm ((10 : Int) ^ (19 : Int).toNat)) = true) (some ([(some (a2 - ((5 : Int) * ((10 : Int) ^ (19 : Int).toNat)))), (some (a2 + ((5 : Int) * ((10 : Int) ^ (19 : Int).toNat))))], b299.2.2.2))) else some ([(some x295), (some x298)], b299.2.2.2)) (s_ifT (ins_F _) (t_kd (c := fun (b_ : (Unit × Unit)) => (decide (x292 = (1 : Int)))) (t_eqI (x_var (p := pInt x292) 2) (fun _ => x_int (i := 1)))) (fun (b301 : (Unit × Unit)) => s_T (T := some ([(none : Option Int), (some x298)], b299.2.2.2)) (s_retO (P := (fun (r : (List (Option Int)) × (List Int)) => [⟨v1, (oL pInt) r.2, some 0⟩])) (Ro := (fun (r : (List (Option Int)) × (List Int)) => (oL (pOp pInt)) r.1)) (ι := id) (rv := fun (b : (Unit × (Unit × Unit))) => ([(none : Option Int), (some x298)], b299.2.2.2)) (fun _ _ _ h => h) (o_kd (o_kd (E := fun (b_ : (Unit × (Unit × Unit))) => (oL (pOp pInt)) ([(none : Option Int), (some x298)])) (x_disp (pOp pInt) (fun _ => [_, _]) (a_cons (co_none (E := pInt) x_non) (fun _ => a_cons (co_some (E := pInt) (x_var (p := pInt x298) 4)) (fun _ => a_nil))) (fun _ => rfl) (fun _ => by simp)))) (fun _ => List.Sublist.refl _))) fun (b301 : (Unit × Unit)) => s_T (T := if (decide (x292 = (2 : Int))) = true then some ([(some x295), (none : Option Int)], b299.2.2.2) else if (decide (x292 = (3 : Int))) = true then some ([(some a2), (some a2)], b299.2.2.2) else if (decide (x292 = (4 : Int))) = true then some ([(some (a2 + (1 : Int))), (some a2)], b299.2.2.2) else if (decide (x292 = (5 : Int))) = true then some ([(none : Option Int), (some (a2 - (1 : Int)))], b299.2.2.2) else if (decide (x292 = (6 : Int))) = true then some ([(some (a2 + (1 : Int))), (none : Option Int)], b299.2.2.2) else if (decide (x292 = (8 : Int))) = true then grd ((sm (5 : Int) || sm ((10 : Int) ^ (19 : Int).toNat)) = true) (grd ((sm (5 : Int) || sm ((10 : Int) ^ (19 : Int).toNat)) = true) (some ([(some (a2 - ((5 : Int) * ((10 : Int) ^ (19 : Int).toNat)))), (some (a2 + ((5 : Int) * ((10 : Int) ^ (19 : Int).toNat))))], b299.2.2.2))) else some ([(some x295), (some x298)], b299.2.2.2)) (s_ifT (ins_F _) (t_kd (c := fun (b_ : (Unit × Unit)) => (decide (x292 = (2 : Int)))) (t_eqI (x_var (p := pInt x292) 2) (fun _ => x_int (i := 2)))) (fun (b302 : (Unit × Unit)) => s_T (T := some ([(some x295), (none : Option Int)], b299.2.2.2)) (s_retO (P := (fun (r : (List (Option Int)) × (List Int)) => [⟨v1, (oL pInt) r.2, some 0⟩])) (Ro := (fun (r : (List (Option Int)) × (List Int)) => (oL (pOp pInt)) r.1)) (ι := id) (rv := fun (b : (Unit × (Unit × Unit))) => ([(some x295), (none : Option Int)], b299.2.2.2)) (fun _ _ _ h => h) (o_kd (o_kd (E := fun (b_ : (Unit × (Unit × Unit))) => (oL (pOp pInt)) ([(some x295), (none : Option Int)])) (x_disp (pOp pInt) (fun _ => [_, _]) (a_cons (co_some (E := pInt) (x_var (p := pInt x295) 3)) (fun _ => a_cons (co_none (E := pInt) x_non) (fun _ => a_nil))) (fun _ => rfl) (fun _ => by simp)))) (fun _ => List.Sublist.refl _))) fun (b302 : (Unit × Unit)) => s_T (T := if (decide (x292 = (3 : Int))) = true then some ([(some a2), (some a2)], b299.2.2.2) else if (decide (x292 = (4 : Int))) = true then some ([(some (a2 + (1 : Int))), (some a2)], b299.2.2.2) else if (decide (x292 = (5 : Int))) = true then some ([(none : Option Int), (some (a2 - (1 : Int)))], b299.2.2.2) else if (decide (x292 = (6 : Int))) = true then some ([(some (a2 + (1 : Int))), (none : Option Int)], b299.2.2.2) else if (decide (x292 = (8 : Int))) = true then grd ((sm (5 : Int) || sm ((10 : Int) ^ (19 : Int).toNat)) = true) (grd ((sm (5 : Int) || sm ((10 : Int) ^ (19 : Int).toNat)) = true) (some ([(some (a2 - ((5 : Int) * ((10 : Int) ^ (19 : Int).toNat)))), (some (a2 + ((5 : Int) * ((10 : Int) ^ (19 : Int).toNat))))], b299.2.2.2))) else some ([(some x295), (some x298)], b299.2.2.2)) (s_ifT (ins_F _) (t_kd (c := fun (b_ : (Unit × Unit)) => (decide (x292 = (3 : Int)))) (t_eqI (x_var (p := pInt x292) 2) (fun _ => x_int (i := 3)))) (fun (b303 : (Unit × Unit)) => s_T (T := some ([(some a2), (some a2)], b299.2.2.2)) (s_retO (P := (fun (r : (List (Option Int)) × (List Int)) => [⟨v1, (oL pInt) r.2, some 0⟩])) (Ro := (fun (r : (List (Option Int)) × (List Int)) => (oL (pOp pInt)) r.1)) (ι := id) (rv := fun (b : (Unit × (Unit × Unit))) => ([(some a2), (some a2)], b299.2.2.2)) (fun _ _ _ h => h) (o_kd (o_kd (E := fun (b_ : (Unit × (Unit × Unit))) => (oL (pOp pInt)) ([(some a2), (some a2)])) (x_disp (pOp pInt) (fun _ => [_, _]) (a_cons (co_some (E := pInt) (x_var (p := pInt a2) 1)) (fun _ => a_cons (co_some (E := pInt) (x_var (p := pInt a2) 1)) (fun _ => a_nil))) (fun _ => rfl) (fun _ => by simp)))) (fun _ => List.Sublist.refl _))) fun (b303 : (Unit × Unit)) => s_T (T := if (decide (x292 = (4 : Int))) = true then some ([(some (a2 + (1 : Int))), (some a2)], b299.2.2.2) else if (decide (x292 = (5 : Int))) = true then some ([(none : Option Int), (some (a2 - (1 : Int)))], b299.2.2.2) else if (decide (x292 = (6 : Int))) = true then some ([(some (a2 + (1 : Int))), (none : Option Int)], b299.2.2.2) else if (decide (x292 = (8 : Int))) = true then grd ((sm (5 : Int) || sm ((10 : Int) ^ (19 : Int).toNat)) = true) (grd ((sm (5 : Int) || sm ((10 : Int) ^ (19 : Int).toNat)) = true) (some ([(some (a2 - ((5 : Int) * ((10 : Int) ^ (19 : Int).toNat)))), (some (a2 + ((5 : Int) * ((10 : Int) ^ (19 : Int).toNat))))], b299.2.2.2))) else some ([(some x295), (some x298)], b299.2.2.2)) (s_ifT (ins_F _) (t_kd (c := fun (b_ : (Unit × Unit)) => (decide (x292 = (4 : Int)))) (t_eqI (x_var (p := pInt x292) 2) (fun _ => x_int (i := 4)))) (fun (b304 : (Unit × Unit)) => s_T (T := some ([(some (a2 + (1 : Int))), (some a2)], b299.2.2.2)) (s_retO (P := (fun (r : (List (Option Int)) × (List Int)) => [⟨v1, (oL pInt) r.2, some 0⟩])) (Ro := (fun (r : (List (Option Int)) × (List Int)) => (oL (pOp pInt)) r.1)) (ι := id) (rv := fun (b : ((Unit × Unit) × (Unit × Unit))) => ([(some (a2 + (1 : Int))), (some a2)], b299.2.2.2)) (fun _ _ _ h => h) (o_kd (o_kd (E := fun (b_ : ((Unit × Unit) × (Unit × Unit))) => (oL (pOp pInt)) ([(some (a2 + (1 : Int))), (some a2)])) (x_disp (pOp pInt) (fun _ => [_, _]) (a_cons (co_some (E := pInt) (x_kd (E := fun (b_ : (Unit × Unit)) => pInt (a2 + (1 : Int))) (x_add (x_var (p := pInt a2) 1) (fun _ => x_int (i := 1))))) (fun _ => a_cons (co_some (E := pInt) (x_var (p := pInt a2) 1)) (fun _ => a_nil))) (fun _ => rfl) (fun _ => by simp)))) (fun _ => List.Sublist.refl _))) fun (b304 : (Unit × Unit)) => s_T (T := if (decide (x292 = (5 : Int))) = true then some ([(none : Option Int), (some (a2 - (1 : Int)))], b299.2.2.2) else if (decide (x292 = (6 : Int))) = true then some ([(some (a2 + (1 : Int))), (none : Option Int)], b299.2.2.2) else if (decide (x292 = (8 : Int))) = true then grd ((sm (5 : Int) || sm ((10 : Int) ^ (19 : Int).toNat)) = true) (grd ((sm (5 : Int) || sm ((10 : Int) ^ (19 : Int).toNat)) = true) (some ([(some (a2 - ((5 : Int) * ((10 : Int) ^ (19 : Int).toNat)))), (some (a2 + ((5 : Int) * ((10 : Int) ^ (19 : Int).toNat))))], b299.2.2.2))) else some ([(some x295), (some x298)], b299.2.2.2)) (s_ifT (ins_F _) (t_kd (c := fun (b_ : (Unit × Unit)) => (decide (x292 = (5 : Int)))) (t_eqI (x_var (p := pInt x292) 2) (fun _ => x_int (i := 5)))) (fun (b305 : (Unit × Unit)) => s_T (T := some ([(none : Option Int), (some (a2 - (1 : Int)))], b299.2.2.2)) (s_retO (P := (fun (r : (List (Option Int)) × (List Int)) => [⟨v1, (oL pInt) r.2, some 0⟩])) (Ro := (fun (r : (List (Option Int)) × (List Int)) => (oL (pOp pInt)) r.1)) (ι := id) (rv := fun (b : (Unit × ((Unit × Unit) × Unit))) => ([(none : Option Int), (some (a2 - (1 : Int)))], b299.2.2.2)) (fun _ _ _ h => h) (o_kd (o_kd (E := fun (b_ : (Unit × ((Unit × Unit) × Unit))) => (oL (pOp pInt)) ([(none : Option Int), (some (a2 - (1 : Int)))])) (x_disp (pOp pInt) (fun _ => [_, _]) (a_cons (co_none (E := pInt) x_non) (fun _ => a_cons (co_some (E := pInt) (x_kd (E := fun (b_ : (Unit × Unit)) => pInt (a2 - (1 : Int))) (x_sub (x_var (p := pInt a2) 1) (fun _ => x_int (i := 1))))) (fun _ => a_nil))) (fun _ => rfl) (fun _ => by simp)))) (fun _ => List.Sublist.refl _))) fun (b305 : (Unit × Unit)) => s_T (T := if (decide (x292 = (6 : Int))) = true then some ([(some (a2 + (1 : Int))), (none : Option Int)], b299.2.2.2) else if (decide (x292 = (8 : Int))) = true then grd ((sm (5 : Int) || sm ((10 : Int) ^ (19 : Int).toNat)) = true) (grd ((sm (5 : Int) || sm ((10 : Int) ^ (19 : Int).toNat)) = true) (some ([(some (a2 - ((5 : Int) * ((10 : Int) ^ (19 : Int).toNat)))), (some (a2 + ((5 : Int) * ((10 : Int) ^ (19 : Int).toNat))))], b299.2.2.2))) else some ([(some x295), (some x298)], b299.2.2.2)) (s_ifT (ins_F _) (t_kd (c := fun (b_ : (Unit × Unit)) => (decide (x292 = (6 : Int)))) (t_eqI (x_var (p := pInt x292) 2) (fun _ => x_int (i := 6)))) (fun (b306 : (Unit × Unit)) => s_T (T := some ([(some (a2 + (1 : Int))), (none : Option Int)], b299.2.2.2)) (s_retO (P := (fun (r : (List (Option Int)) × (List Int)) => [⟨v1, (oL pInt) r.2, some 0⟩])) (Ro := (fun (r : (List (Option Int)) × (List Int)) => (oL (pOp pInt)) r.1)) (ι := id) (rv := fun (b : ((Unit × Unit) × (Unit × Unit))) => ([(some (a2 + (1 : Int))), (none : Option Int)], b299.2.2.2)) (fun _ _ _ h => h) (o_kd (o_kd (E := fun (b_ : ((Unit × Unit) × (Unit × Unit))) => (oL (pOp pInt)) ([(some (a2 + (1 : Int))), (none : Option Int)])) (x_disp (pOp pInt) (fun _ => [_, _]) (a_cons (co_some (E := pInt) (x_kd (E := fun (b_ : (Unit × Unit)) => pInt (a2 + (1 : Int))) (x_add (x_var (p := pInt a2) 1) (fun _ => x_int (i := 1))))) (fun _ => a_cons (co_none (E := pInt) x_non) (fun _ => a_nil))) (fun _ => rfl) (fun _ => by simp)))) (fun _ => List.Sublist.refl _))) fun (b306 : (Unit × Unit)) => s_T (T := if (decide (x292 = (8 : Int))) = true then grd ((sm (5 : Int) || sm ((10 : Int) ^ (19 : Int).toNat)) = true) (grd ((sm (5 : Int) || sm ((10 : Int) ^ (19 : Int).toNat)) = true) (some ([(some (a2 - ((5 : Int) * ((10 : Int) ^ (19 : Int).toNat)))), (some (a2 + ((5 : Int) * ((10 : Int) ^ (19 : Int).toNat))))], b299.2.2.2))) else some ([(some x295), (some x298)], b299.2.2.2)) (s_ifT (ins_F _) (t_kd (c := fun (b_ : (Unit × Unit)) => (decide (x292 = (8 : Int)))) (t_eqI (x_var (p := pInt x292) 2) (fun _ => x_int (i := 8)))) (fun (b307 : (Unit × Unit)) => s_T (T := grd ((sm (5 : Int) || sm ((10 : Int) ^ (19 : Int).toNat)) = true) (grd ((sm (5 : Int) || sm ((10 : Int) ^ (19 : Int).toNat)) = true) (some ([(some (a2 - ((5 : Int) * ((10 : Int) ^ (19 : Int).toNat)))), (some (a2 + ((5 : Int) * ((10 : Int) ^ (19 : Int).toNat))))], b299.2.2.2)))) (s_retO (P := (fun (r : (List (Option Int)) × (List Int)) => [⟨v1, (oL pInt) r.2, some 0⟩])) (Ro := (fun (r : (List (Option Int)) × (List Int)) => (oL (pOp pInt)) r.1)) (ι := id) (rv := fun (b : ((Unit × (Unit × (Unit × Unit))) × ((Unit × (Unit × (Unit × Unit))) × Unit))) => ([(some (a2 - ((5 : Int) * ((10 : Int) ^ (19 : Int).toNat)))), (some (a2 + ((5 : Int) * ((10 : Int) ^ (19 : Int).toNat))))], b299.2.2.2)) (fun _ _ _ h => h) (o_kd (o_kd (E := fun (b_ : ((Unit × (Unit × (Unit × Unit))) × ((Unit × (Unit × (Unit × Unit))) × Unit))) => (oL (pOp pInt)) ([(some (a2 - ((5 : Int) * ((10 : Int) ^ (19 : Int).toNat)))), (some (a2 + ((5 : Int) * ((10 : Int) ^ (19 : Int).toNat))))])) (x_disp (pOp pInt) (fun _ => [_, _]) (a_cons (co_some (E := pInt) (x_kd (E := fun (b_ : (Unit × (Unit × (Unit × Unit)))) => pInt (a2 - ((5 : Int) * ((10 : Int) ^ (19 : Int).toNat)))) (x_sub (x_var (p := pInt a2) 1) (fun _ => x_kd (E := fun (b_ : (Unit × (Unit × Unit))) => pInt ((5 : Int) * ((10 : Int) ^ (19 : Int).toNat))) (x_mul (x_int (i := 5)) (fun _ => x_kd (E := fun (b_ : (Unit × Unit)) => pInt ((10 : Int) ^ (19 : Int).toNat)) (x_pow (x_int (i := 10)) (fun _ => x_int (i := 19)) (fun _ _ => by decide)))))))) (fun _ => a_cons (co_some (E := pInt) (x_kd (E := fun (b_ : (Unit × (Unit × (Unit × Unit)))) => pInt (a2 + ((5 : Int) * ((10 : Int) ^ (19 : Int).toNat)))) (x_add (x_var (p := pInt a2) 1) (fun _ => x_kd (E := fun (b_ : (Unit × (Unit × Unit))) => pInt ((5 : Int) * ((10 : Int) ^ (19 : Int).toNat))) (x_mul (x_int (i := 5)) (fun _ => x_kd (E := fun (b_ : (Unit × Unit)) => pInt ((10 : Int) ^ (19 : Int).toNat)) (x_pow (x_int (i := 10)) (fun _ => x_int (i := 19)) (fun _ _ => by decide)))))))) (fun _ => a_nil))) (fun _ => rfl) (fun _ => by simp)))) (fun _ => List.Sublist.refl _))) fun (b307 : (Unit × Unit)) => s_T (T := some ([(some x295), (some x298)], b299.2.2.2)) (s_retO (P := (fun (r : (List (Option Int)) × (List Int)) => [⟨v1, (oL pInt) r.2, some 0⟩])) (Ro := (fun (r : (List (Option Int)) × (List Int)) => (oL (pOp pInt)) r.1)) (ι := id) (rv := fun (b : (Unit × (Unit × Unit))) => ([(some x295), (some x298)], b299.2.2.2)) (fun _ _ _ h => h) (o_kd (o_kd (E := fun (b_ : (Unit × (Unit × Unit))) => (oL (pOp pInt)) ([(some x295), (some x298)])) (x_disp (pOp pInt) (fun _ => [_, _]) (a_cons (co_some (E := pInt) (x_var (p := pInt x295) 3)) (fun _ => a_cons (co_some (E := pInt) (x_var (p := pInt x298) 4)) (fun _ => a_nil))) (fun _ => rfl) (fun _ => by simp)))) (fun _ => List.Sublist.refl _)))))))))))))) (by unfold M_l_bounds; rfl)
end
end My
end
section
set_option Elab.async false
set_option linter.all false
set_option maxRecDepth 100000
set_option maxHeartbeats 4000000
set_option pp.maxSteps 200
namespace My
open PySem PySem.Spec PyProof.Rows L2 L3
section
variable {P : Program} {w : World} {K : PySem.W.Frag} {mg : Str → Option Value} {base : Heap}
theorem sc_l_live : FnScope ["_law_terms", "_law_sides_here", "_law_bounds_here", "_law_left_out"] ["_law_terms", "_law_sides_here", "_law_bounds_here", "_law_left_out"] (defScope (top 24)) := ⟨rfl, rfl, rfl, by decide +kernel, rfl, by decide +kernel, by decide +kernel⟩
theorem ok_l_live {f : Addr} {fd : FuncData} (C : Ev K mg) (FD : FnP K "_law_live" (top 24) f fd)   : FnOk P w K mg base CX0 5 f fd ["_law_terms", "_law_sides_here", "_law_bounds_here", "_law_left_out"] (Sp_FFFF_o (pL (pT2 pInt pStr)) (pM (κ := Str) (pL pInt)) (pL (pOp pInt)) pBl M_l_live (oLO (oL pInt))) := by
  obtain ⟨f_live_layers, fd_live_layers, F_live_layers, g_live_layers⟩ := C.f_live_layers
  have k_live_layers := ok_live_layers (P := P) (w := w) (base := base) C F_live_layers
  obtain ⟨ds_b_live_layers_2_, v_b_live_layers_2_, b_live_layers_2_⟩ := FunD.binds0 (ps := ["terms", "box", "low", "high"]) F_live_layers 2 (by decide) (by decide) (fun D doc pm an cdv ct us ks h1 h2 => match us, ks, h1, h2 with | [_, _], [_, _], _, _ => ⟨_, _, _, _, _, _, rfl, rfl, ⟨_, _, _, _, _, _, rfl, rfl, rfl⟩⟩)
  obtain ⟨mv_b_live_layers_2_4, b_live_layers_2_4⟩ := FunD.kbinds0 (ps := ["terms", "box", "low", "high"]) F_live_layers 2 ["high"] [("low", .non)] (fun vs mz zs => vs ++ (mz.drop 0).take 1 ++ (zs.drop 0).take 1) (by decide) (by simp) (fun r1 r2 r3 => paired_app (paired_app (r1) (paired_take 1 (paired_drop 0 r2))) (paired_take 1 (paired_drop 0 r3))) (fun D doc pm an cdv ct us mv ws h1 h2 h3 => match us, mv, ws, h1, h2, h3 with | [_, _], [_], [_], _, _, _ => ⟨_, _, _, _, _, _, rfl, rfl, rfl⟩)
  obtain ⟨mv_b_live_layers_2_3, b_live_layers_2_3⟩ := FunD.kbinds0 (ps := ["terms", "box", "low", "high"]) F_live_layers 2 ["low"] [("high", .non)] (fun vs mz zs => vs ++ (zs.drop 0).take 1 ++ (mz.drop 0).take 1) (by decide) (by simp) (fun r1 r2 r3 => paired_app (paired_app (r1) (paired_take 1 (paired_drop 0 r3))) (paired_take 1 (paired_drop 0 r2))) (fun D doc pm an cdv ct us mv ws h1 h2 h3 => match us, mv, ws, h1, h2, h3 with | [_, _], [_], [_], _, _, _ => ⟨_, _, _, _, _, _, rfl, rfl, rfl⟩)
  obtain ⟨mv_b_live_layers_2_34, b_live_layers_2_34⟩ := FunD.kbinds0 (ps := ["terms", "box", "low", "high"]) F_live_layers 2 ["low", "high"] [] (fun vs mz zs => vs ++ (zs.drop 0).take 1 ++ (zs.drop 1).take 1) (by decide) (by simp) (fun r1 r2 r3 => paired_app (paired_app (r1) (paired_take 1 (paired_drop 0 r3))) (paired_take 1 (paired_drop 1 r3))) (fun D doc pm an cdv ct us mv ws h1 h2 h3 => match us, mv, ws, h1, h2, h3 with | [_, _], [], [_, _], _, _, _ => rfl)
  refine fn_FFFF_o FD sc_l_live rfl fun cdv A outer s H E hr  a1 a2 a3 a4 => ?_
  exact s_is (s_T (T := ((if a4 = true then (atI a3 (0 : Int)).bind fun x310 => ((if (x310.isNone) = true then (atI a3 (1 : Int)).bind fun x312 => some ((x312.isNone), ()) else some (false, ()))).bind fun c313 => some (c313.1, ()) else some (false, ()))).bind fun c314 => if c314.1 = true then (M_live_layers a1 a2 (none : Option Int) (none : Option Int)).bind fun r316 => some r316 else ((if a4 = true then (atI a3 (0 : Int)).bind fun x318 => some ((x318.isNone), ()) else some (false, ()))).bind fun c319 => if c319.1 = true then (atI a3 (1 : Int)).bind fun x321 => (M_live_layers a1 a2 (none : Option Int) x321).bind fun r322 => some r322 else ((if a4 = true then (atI a3 (1 : Int)).bind fun x324 => some ((x324.isNone), ()) else some (false, ()))).bind fun c325 => if c325.1 = true then (atI a3 (0 : Int)).bind fun x327 => (M_live_layers a1 a2 x327 (none : Option Int)).bind fun r328 => some r328 else (atI a3 (0 : Int)).bind fun x329 => (atI a3 (1 : Int)).bind fun x330 => (M_live_layers a1 a2 x329 x330).bind fun r331 => some r331) (s_ifT (ins_F _) (t_kd (c := fun (b_ : (Unit × (Bool × Unit))) => b_.2.1) (PW.pt (w_andM (ΔS := fun (b_ : Unit) (s_ : Unit) => []) (s1 := fun (b_ : Unit) => ()) (s2 := fun (b_ : Unit) (c_ : (((Unit × Unit) × (Option Int)) × (Bool × Unit))) => ()) (t_kd (c := fun (b_ : Unit) => a4) (t_val (x_var (p := pBl a4) 3))) (fun _ => w_andM (ΔS := fun (b_ : ((Unit × Unit) × (Option Int))) (s_ : Unit) => []) (s1 := fun (b_ : ((Unit × Unit) × (Option Int))) => ()) (s2 := fun (b_ : ((Unit × Unit) × (Option Int))) (c_ : ((Unit × Unit) × (Option Int))) => ()) (t_kd (c := fun (b_ : ((Unit × Unit) × (Option Int))) => (b_.2.isNone)) (t_isN nnInt (x_kd (E := fun (b_ : ((Unit × Unit) × (Option Int))) => (pOp pInt) b_.2) (x_ixL (Ee := (pOp pInt)) (x_var (p := (pL (pOp pInt)) a3) 2) (fun _ => x_int (i := 0)) (fun _ _ => rdF))))) (fun _ => w_and1 (t_kd (c := fun (b_ : ((Unit × Unit) × (Option Int))) => (b_.2.isNone)) (t_isN nnInt (x_kd (E := fun (b_ : ((Unit × Unit) × (Option Int))) => (pOp pInt) b_.2) (x_ixL (Ee := (pOp pInt)) (x_var (p := (pL (pOp pInt)) a3) 2) (fun _ => x_int (i := 1)) (fun _ _ => rdF)))))) (fun _ => rfl) (fun _ _ => rfl)) (fun _ => rfl) (fun _ _ => rfl)))) (fun (b315 : (Unit × (Bool × Unit))) => s_T (T := (M_live_layers a1 a2 (none : Option Int) (none : Option Int)).bind fun r316 => some r316) (s_retO (P := (fun _ => [])) (Ro := (oLO (oL pInt))) (ι := id) (rv := fun (b : ((Unit × Unit) × (List (List Int)))) => b.2) (fun _ _ _ h => h) (o_kd (o_kd (E := fun (b_ : ((Unit × Unit) × (List (List Int)))) => (oLO (oL pInt)) b_.2) (x_KFFFF_o_2_ (kk := 4) (E1 := (pL (pT2 pInt pStr))) (E2 := (pM (κ := Str) (pL pInt))) (E3 := (pOp pInt)) (E4 := (pOp pInt)) k_live_layers (hr.mono (by decide)) g_live_layers F_live_layers.kp b_live_layers_2_ v_b_live_layers_2_ none (fun _ => rfl) none (fun _ => rfl) (x_var (p := (pL (pT2 pInt pStr)) a1) 0) (fun _ => x_var (p := (pM (κ := Str) (pL pInt)) a2) 1)))) (fun _ => List.Sublist.refl _))) fun (b315 : (Unit × (Bool × Unit))) => s_T (T := ((if a4 = true then (atI a3 (0 : Int)).bind fun x318 => some ((x318.isNone), ()) else some (false, ()))).bind fun c319 => if c319.1 = true then (atI a3 (1 : Int)).bind fun x321 => (M_live_layers a1 a2 (none : Option Int) x321).bind fun r322 => some r322 else ((if a4 = true then (atI a3 (1 : Int)).bind fun x324 => some ((x324.isNone), ()) else some (false, ()))).bind fun c325 => if c325.1 = true then (atI a3 (0 : Int)).bind fun x327 => (M_live_layers a1 a2 x327 (none : Option Int)).bind fun r328 => some r328 else (atI a3 (0 : Int)).bind fun x329 => (atI a3 (1 : Int)).bind fun x330 => (M_live_layers a1 a2 x329 x330).bind fun r331 => some r331) (s_ifT (ins_F _) (t_kd (c := fun (b_ : (Unit × (Bool × Unit))) => b_.2.1) (PW.pt (w_andM (ΔS := fun (b_ : Unit) (s_ : Unit) => []) (s1 := fun (b_ : Unit) => ()) (s2 := fun (b_ : Unit) (c_ : ((Unit × Unit) × (Option Int))) => ()) (t_kd (c := fun (b_ : Unit) => a4) (t_val (x_var (p := pBl a4) 3))) (fun _ => w_and1 (t_kd (c := fun (b_ : ((Unit × Unit) × (Option Int))) => (b_.2.isNone)) (t_isN nnInt (x_kd (E := fun (b_ : ((Unit × Unit) × (Option Int))) => (pOp pInt) b_.2) (x_ixL (Ee := (pOp pInt)) (x_var (p := (pL (pOp pInt)) a3) 2) (fun _ => x_int (i := 0)) (fun _ _ => rdF)))))) (fun _ => rfl) (fun _ _ => rfl)))) (fun (b320 : (Unit × (Bool × Unit))) => s_T (T := (atI a3 (1 : Int)).bind fun x321 => (M_live_layers a1 a2 (none : Option Int) x321).bind fun r322 => some r322) (s_retO (P := (fun _ => [])) (Ro := (oLO (oL pInt))) (ι := id) (rv := fun (b : ((Unit × (Unit × ((Unit × Unit) × (Option Int)))) × (List (List Int)))) => b.2) (fun _ _ _ h => h) (o_kd (o_kd (E := fun (b_ : ((Unit × (Unit × ((Unit × Unit) × (Option Int)))) × (List (List Int)))) => (oLO (oL pInt)) b_.2) (x_KFFFF_o_2_4 (kk := 4) (E1 := (pL (pT2 pInt pStr))) (E2 := (pM (κ := Str) (pL pInt))) (E3 := (pOp pInt)) (E4 := (pOp pInt)) k_live_layers (hr.mono (by decide)) g_live_layers F_live_layers.kp b_live_layers_2_4 none (fun _ => rfl) (x_var (p := (pL (pT2 pInt pStr)) a1) 0) (fun _ => x_var (p := (pM (κ := Str) (pL pInt)) a2) 1) (fun _ _ => x_kd (E := fun (b_ : ((Unit × Unit) × (Option Int))) => (pOp pInt) b_.2) (x_ixL (Ee := (pOp pInt)) (x_var (p := (pL (pOp pInt)) a3) 2) (fun _ => x_int (i := 1)) (fun _ _ => rdF)))))) (fun _ => List.Sublist.refl _))) fun (b320 : (Unit × (Bool × Unit))) => s_T (T := ((if a4 = true then (atI a3 (1 : Int)).bind fun x324 => some ((x324.isNone), ()) else some (false, ()))).bind fun c325 => if c325.1 = true then (atI a3 (0 : Int)).bind fun x327 => (M_live_layers a1 a2 x327 (none : Option Int)).bind fun r328 => some r328 else (atI a3 (0 : Int)).bind fun x329 => (atI a3 (1 : Int)).bind fun x330 => (M_live_layers a1 a2 x329 x330).bind fun r331 => some r331) (s_ifT (ins_F _) (t_kd (c := fun (b_ : (Unit × (Bool × Unit))) => b_.2.1) (PW.pt (w_andM (ΔS := fun (b_ : Unit) (s_ : Unit) => []) (s1 := fun (b_ : Unit) => ()) (s2 := fun (b_ : Unit) (c_ : ((Unit × Unit) × (Option Int))) => ()) (t_kd (c := fun (b_ : Unit) => a4) (t_val (x_var (p := pBl a4) 3))) (fun _ => w_and1 (t_kd (c := fun (b_ : ((Unit × Unit) × (Option Int))) => (b_.2.isNone)) (t_isN nnInt (x_kd (E := fun (b_ : ((Unit × Unit) × (Option Int))) => (pOp pInt) b_.2) (x_ixL (Ee := (pOp pInt)) (x_var (p := (pL (pOp pInt)) a3) 2) (fun _ => x_int (i := 1)) (fun _ _ => rdF)))))) (fun _ => rfl) (fun _ _ => rfl)))) (fun (b326 : (Unit × (Bool × Unit))) => s_T (T := (atI a3 (0 : Int)).bind fun x327 => (M_live_layers a1 a2 x327 (none : Option Int)).bind fun r328 => some r328) (s_retO (P := (fun _ => [])) (Ro := (oLO (oL pInt))) (ι := id) (rv := fun (b : ((Unit × (Unit × ((Unit × Unit) × (Option Int)))) × (List (List Int)))) => b.2) (fun _ _ _ h => h) (o_kd (o_kd (E := fun (b_ : ((Unit × (Unit × ((Unit × Unit) × (Option Int)))) × (List (List Int)))) => (oLO (oL pInt)) b_.2) (x_KFFFF_o_2_3 (kk := 4) (E1 := (pL (pT2 pInt pStr))) (E2 := (pM (κ := Str) (pL pInt))) (E3 := (pOp pInt)) (E4 := (pOp pInt)) k_live_layers (hr.mono (by decide)) g_live_layers F_live_layers.kp b_live_layers_2_3 none (fun _ => rfl) (x_var (p := (pL (pT2 pInt pStr)) a1) 0) (fun _ => x_var (p := (pM (κ := Str) (pL pInt)) a2) 1) (fun _ _ => x_kd (E := fun (b_ : ((Unit × Unit) × (Option Int))) => (pOp pInt) b_.2) (x_ixL (Ee := (pOp pInt)) (x_var (p := (pL (pOp pInt)) a3) 2) (fun _ => x_int (i := 0)) (fun _ _ => rdF)))))) (fun _ => List.Sublist.refl _))) fun (b326 : (Unit × (Bool × Unit))) => s_T (T := (atI a3 (0 : Int)).bind fun x329 => (atI a3 (1 : Int)).bind fun x330 => (M_live_layers a1 a2 x329 x330).bind fun r331 => some r331) (s_retO (P := (fun _ => [])) (Ro := (oLO (oL pInt))) (ι := id) (rv := fun (b : ((Unit × (Unit × (((Unit × Unit) × (Option Int)) × ((Unit × Unit) × (Option Int))))) × (List (List Int)))) => b.2) (fun _ _ _ h => h) (o_kd (o_kd (E := fun (b_ : ((Unit × (Unit × (((Unit × Unit) × (Option Int)) × ((Unit × Unit) × (Option Int))))) × (List (List Int)))) => (oLO (oL pInt)) b_.2) (x_KFFFF_o_2_34 (kk := 4) (E1 := (pL (pT2 pInt pStr))) (E2 := (pM (κ := Str) (pL pInt))) (E3 := (pOp pInt)) (E4 := (pOp pInt)) k_live_layers (hr.mono (by decide)) g_live_layers F_live_layers.kp b_live_layers_2_34  (x_var (p := (pL (pT2 pInt pStr)) a1) 0) (fun _ => x_var (p := (pM (κ := Str) (pL pInt)) a2) 1) (fun _ _ => x_kd (E := fun (b_ : ((Unit × Unit) × (Option Int))) => (pOp pInt) b_.2) (x_ixL (Ee := (pOp pInt)) (x_var (p := (pL (pOp pInt)) a3) 2) (fun _ => x_int (i := 0)) (fun _ _ => rdF))) (fun _ _ _ => x_kd (E := fun (b_ : ((Unit × Unit) × (Option Int))) => (pOp pInt) b_.2) (x_ixL (Ee := (pOp pInt)) (x_var (p := (pL (pOp pInt)) a3) 2) (fun _ => x_int (i := 1)) (fun _ _ => rdF)))))) (fun _ => List.Sublist.refl _)))))) (by unfold M_l_live; rfl)
end
end My
end
section
set_option Elab.async false
set_option linter.all false
set_option maxRecDepth 100000
set_option maxHeartbeats 4000000
set_option pp.maxSteps 200
namespace My
open PySem PySem.Spec PyProof.Rows L2 L3
section
variable {P : Program} {w : World} {K : PySem.W.Frag} {mg : Str → Option Value} {base : Heap}
theorem sc_l_choice : FnScope ["_law_stream_here", "_law_terms", "_law_sides_here", "_law_pool_here", "_law_total", "_law_term", "_law_side"] ["_law_stream_here", "_law_terms", "_law_sides_here", "_law_pool_here"] (defScope (top 25)) := ⟨rfl, rfl, rfl, by decide +kernel, rfl, by decide +kernel, by decide +kernel⟩
theorem ok_l_choice {f : Addr} {fd : FuncData} (C : Ev K mg) (FD : FnP K "_law_choice" (top 25) f fd)   : FnOk P w K mg base CX0 2 f fd ["_law_stream_here", "_law_terms", "_law_sides_here", "_law_pool_here"] (Sp_OFFF_f (oL pInt) (pL (pT2 pInt pStr)) (pM (κ := Str) (pL pInt)) (pL pInt) M_l_choice pInt) := by
  have m_len := C.m_len
  obtain ⟨f_l_next, fd_l_next, F_l_next, g_l_next⟩ := C.f_l_next
  have k_l_next := ok_l_next (P := P) (w := w) (base := base) C F_l_next
  have b_l_next : Binds K fd_l_next ["_law_stream_here", "_law_size"] [] := F_l_next.bindsN fun _ _ _ _ _ _ us hl => match us, hl with | [_, _], _ => rfl
  refine fn_OFFF_f FD sc_l_choice rfl fun cdv A outer s H E hr v1 G1 a1 a2 a3 a4 => ?_
  exact s_is (s_T (T := (some ((0 : Int) : Int)).bind fun x332 => (forS a2 ((x332, a1) : Int × (List Int)) fun x336 s335 => (dget a3 (x336.2)).bind fun x338 => (some (x338 : List Int)).bind fun x339 => (if (decide ((x339.length : Int) = (0 : Int))) = true then (some (a4 : List Int)).bind fun x347 => some x347 else some x339).bind fun s342 => (M_l_next (s335.2) (s342.length : Int)).bind fun r343 => (atI s342 (r343.1)).bind fun x344 => grd ((sm (x336.1) || sm x344) = true) ((some (((s335.1) + ((x336.1) * x344)) : Int)).bind fun x345 => some (x345, r343.2))).bind fun s337 => some (s337.1, s337.2)) (s_let (i := 4) pInt sc_l_choice.nd (x_int (i := 0)) fun (b333 : Unit) x332 => s_T (T := (forS a2 ((x332, a1) : Int × (List Int)) fun x336 s335 => (dget a3 (x336.2)).bind fun x338 => (some (x338 : List Int)).bind fun x339 => (if (decide ((x339.length : Int) = (0 : Int))) = true then (some (a4 : List Int)).bind fun x347 => some x347 else some x339).bind fun s342 => (M_l_next (s335.2) (s342.length : Int)).bind fun r343 => (atI s342 (r343.1)).bind fun x344 => grd ((sm (x336.1) || sm x344) = true) ((some (((s335.1) + ((x336.1) * x344)) : Int)).bind fun x345 => some (x345, r343.2))).bind fun s337 => some (s337.1, s337.2)) (s_forS PassesOwn.never (fun (b_ : Unit) (s_ : Int × (List Int)) => ([some (pV v1), some ((pL (pT2 pInt pStr)) a2), some ((pM (κ := Str) (pL pInt)) a3), some ((pL pInt) a4), some (pInt s_.1), none, none], [⟨v1, (oL pInt) s_.2, some 0⟩])) (fun (b_ : Unit) => (x332, a1)) (i_list (x_var (p := (pL (pT2 pInt pStr)) a2) 1)) (pg_name (i := 5) sc_l_choice.nd rfl (by first | exact .inl rfl | exact .inr rfl)) (tg_name 5) (fun _ => ⟨rfl, rfl, rfl, rfl, rfl, trivial⟩) (fun _ => List.Sublist.refl _) (fun b334 x336 s335 => s_T (T := (dget a3 (x336.2)).bind fun x338 => (some (x338 : List Int)).bind fun x339 => (if (decide ((x339.length : Int) = (0 : Int))) = true then (some (a4 : List Int)).bind fun x347 => some x347 else some x339).bind fun s342 => (M_l_next (s335.2) (s342.length : Int)).bind fun r343 => (atI s342 (r343.1)).bind fun x344 => grd ((sm (x336.1) || sm x344) = true) ((some (((s335.1) + ((x336.1) * x344)) : Int)).bind fun x345 => some (x345, r343.2))) (s_let (i := 6) (pL pInt) sc_l_choice.nd (x_kd (E := fun (b_ : ((Unit × Unit) × (List Int))) => (pL pInt) b_.2) (x_dget (κ := Str) (Ee := (pL pInt)) hr.units (x_var (p := (pM (κ := Str) (pL pInt)) a3) 2) (fun _ => x_kd (E := fun (b_ : Unit) => pStr x336.2) (x_snd (x_var (p := (pT2 pInt pStr) x336) 5))) (fun _ _ => rdMF))) fun (b340 : ((Unit × Unit) × (List Int))) x339 => s_T (T := (if (decide ((x339.length : Int) = (0 : Int))) = true then (some (a4 : List Int)).bind fun x347 => some x347 else some x339).bind fun s342 => (M_l_next (s335.2) (s342.length : Int)).bind fun r343 => (atI s342 (r343.1)).bind fun x344 => grd ((sm (x336.1) || sm x344) = true) ((some (((s335.1) + ((x336.1) * x344)) : Int)).bind fun x345 => some (x345, r343.2))) (s_ifN (C := fun s_ : (List Int) => ([some (pV v1), some ((pL (pT2 pInt pStr)) a2), some ((pM (κ := Str) (pL pInt)) a3), some ((pL pInt) a4), some (pInt s335.1), some ((pT2 pInt pStr) x336), some ((pL pInt) s_)], [⟨v1, (oL pInt) s335.2, some 0⟩])) (t_kd (c := fun (b_ : (Unit × Unit)) => (decide ((x339.length : Int) = (0 : Int)))) (t_eqI (x_kd (E := fun (b_ : Unit) => pInt (x339.length : Int)) (x_lenL (Ee := pInt) m_len (x_var (p := (pL pInt) x339) 6) (fun _ => rdF))) (fun _ => x_int (i := 0)))) (fun (b341 : (Unit × Unit)) => s_T (T := (some (a4 : List Int)).bind fun x347 => some x347) (s_let (i := 6) (pL pInt) sc_l_choice.nd (x_var (p := (pL pInt) a4) 3) fun (b348 : Unit) x347 => s_end x347 rfl ⟨rfl, rfl, rfl, rfl, rfl, rfl, rfl, trivial⟩ (List.Sublist.refl _))) (fun (b341 : (Unit × Unit)) => s_end x339 rfl ⟨rfl, rfl, rfl, rfl, rfl, rfl, rfl, trivial⟩ (List.Sublist.refl _)) fun (b341 : (Unit × Unit)) s342 => s_T (T := (M_l_next (s335.2) (s342.length : Int)).bind fun r343 => (atI s342 (r343.1)).bind fun x344 => grd ((sm (x336.1) || sm x344) = true) ((some (((s335.1) + ((x336.1) * x344)) : Int)).bind fun x345 => some (x345, r343.2))) (s_let (i := 4) pInt sc_l_choice.nd (x_kd (E := fun (b_ : (Unit × (Unit × ((Unit × ((Unit × Unit) × (Int × (List Int)))) × Int)))) => pInt ((s335.1) + ((x336.1) * b_.2.2.2))) (x_add (x_var (p := pInt s335.1) 4) (fun _ => x_kd (E := fun (b_ : (Unit × ((Unit × ((Unit × Unit) × (Int × (List Int)))) × Int))) => pInt ((x336.1) * b_.2.2)) (x_mul (x_kd (E := fun (b_ : Unit) => pInt x336.1) (x_fst (x_var (p := (pT2 pInt pStr) x336) 5))) (fun _ => x_kd (E := fun (b_ : ((Unit × ((Unit × Unit) × (Int × (List Int)))) × Int)) => pInt b_.2) (x_ixL (Ee := pInt) (x_var (p := (pL pInt) s342) 6) (fun _ => x_kd (E := fun (b_ : ((Unit × Unit) × (Int × (List Int)))) => pInt b_.2.1) (x_OF_f (kk := 1) (E1 := (oL pInt)) (E2 := pInt) (s1 := fun (_ : Unit) (_ : Unit) => s335.2) (v1 := v1) k_l_next (hr.mono (by decide)) g_l_next F_l_next.kp b_l_next 0 (x_var (p := pV v1) 0) (fun _ => x_kd (E := fun (b_ : Unit) => pInt (s342.length : Int)) (x_lenL (Ee := pInt) m_len (x_var (p := (pL pInt) s342) 6) (fun _ => rdF))) (fun _ _ => rfl))) (fun _ _ => rdF))))))) fun (b346 : (Unit × (Unit × ((Unit × ((Unit × Unit) × (Int × (List Int)))) × Int)))) x345 => s_end (x345, b346.2.2.1.2.2.2) rfl ⟨rfl, rfl, rfl, rfl, rfl, trivial⟩ (List.Sublist.refl _))))) fun b334 s337 => s_T (T := some (s337.1, s337.2)) (s_ret (P := (fun (r : Int × (List Int)) => [⟨v1, (oL pInt) r.2, some 0⟩])) (Rp := (fun (r : Int × (List Int)) => pInt r.1)) (ι := id) (rv := fun (b : Unit) => (s337.1, s337.2)) (fun _ _ _ h => h) (x_var (p := pInt s337.1) 4) (fun _ => List.Sublist.refl _))))) (by unfold M_l_choice; rfl)
end
end My
end
section
set_option Elab.async false
set_option linter.all false
set_option maxRecDepth 100000
set_option maxHeartbeats 4000000
set_option pp.maxSteps 200
namespace My
open PySem PySem.Spec PyProof.Rows L2 L3
section
variable {P : Program} {w : World} {K : PySem.W.Frag} {mg : Str → Option Value} {base : Heap}
theorem sc_law : FnScope ["_law_script", "_law_stream_here", "_law_size", "_law_most", "_law_pool_here", "_law_scale", "_law_names_here", "_law_second", "_law_sides_here", "_law_third", "_law_terms", "_law_bounds_here", "_law_left_out", "_law_layers", "_law_tails_here", "_law_live_here", "_law_k", "_law_handed_terms", "_law_shift", "_law_handed", "_law_name", "_law_turn", "_law_head", "_law_total"] ["_law_script"] (defScope (top 26)) := ⟨rfl, rfl, rfl, by decide +kernel, rfl, by decide +kernel, by decide +kernel⟩
theorem ok_law {f : Addr} {fd : FuncData} (C : Ev K mg) (FD : FnP K "law" (top 26) f fd)   : FnOk P w K mg base CX0 6 f fd ["_law_script"] (Sp_S K M_law) := by
  have m_int := C.m_int
  have m_len := C.m_len
  have m_list := C.m_list
  have m_range := C.m_range
  have m_set := C.m_set
  have m_sorted := C.m_sorted
  obtain ⟨f_l_stream, fd_l_stream, F_l_stream, g_l_stream⟩ := C.f_l_stream
  have k_l_stream := ok_l_stream (P := P) (w := w) (base := base) C F_l_stream
  have b_l_stream : Binds K fd_l_stream ["_law_script", "_law_k"] [] := F_l_stream.bindsN fun _ _ _ _ _ _ us hl => match us, hl with | [_, _], _ => rfl
  obtain ⟨f_l_next, fd_l_next, F_l_next, g_l_next⟩ := C.f_l_next
  have k_l_next := ok_l_next (P := P) (w := w) (base := base) C F_l_next
  have b_l_next : Binds K fd_l_next ["_law_stream_here", "_law_size"] [] := F_l_next.bindsN fun _ _ _ _ _ _ us hl => match us, hl with | [_, _], _ => rfl
  obtain ⟨f_l_pool, fd_l_pool, F_l_pool, g_l_pool⟩ := C.f_l_pool
  have k_l_pool := ok_l_pool (P := P) (w := w) (base := base) C F_l_pool
  have b_l_pool : Binds K fd_l_pool ["_law_stream_here", "_law_count"] [] := F_l_pool.bindsN fun _ _ _ _ _ _ us hl => match us, hl with | [_, _], _ => rfl
  obtain ⟨f_l_names, fd_l_names, F_l_names, g_l_names⟩ := C.f_l_names
  have k_l_names := ok_l_names (P := P) (w := w) (base := base) C F_l_names
  have b_l_names : Binds K fd_l_names ["_law_stream_here", "_law_count"] [] := F_l_names.bindsN fun _ _ _ _ _ _ us hl => match us, hl with | [_, _], _ => rfl
  obtain ⟨f_l_sides, fd_l_sides, F_l_sides, g_l_sides⟩ := C.f_l_sides
  have k_l_sides := ok_l_sides (P := P) (w := w) (base := base) C F_l_sides
  have b_l_sides : Binds K fd_l_sides ["_law_domains_here"] [] := F_l_sides.bindsN fun _ _ _ _ _ _ us hl => match us, hl with | [_], _ => rfl
  obtain ⟨f_l_domains, fd_l_domains, F_l_domains, g_l_domains⟩ := C.f_l_domains
  have k_l_domains := ok_l_domains (P := P) (w := w) (base := base) C F_l_domains
  have b_l_domains : Binds K fd_l_domains ["_law_stream_here", "_law_names_here", "_law_pool_here", "_law_most"] [] := F_l_domains.bindsN fun _ _ _ _ _ _ us hl => match us, hl with | [_, _, _, _], _ => rfl
  obtain ⟨f_l_bounds, fd_l_bounds, F_l_bounds, g_l_bounds⟩ := C.f_l_bounds
  have k_l_bounds := ok_l_bounds (P := P) (w := w) (base := base) C F_l_bounds
  have b_l_bounds : Binds K fd_l_bounds ["_law_stream_here", "_law_total"] [] := F_l_bounds.bindsN fun _ _ _ _ _ _ us hl => match us, hl with | [_, _], _ => rfl
  obtain ⟨f_l_choice, fd_l_choice, F_l_choice, g_l_choice⟩ := C.f_l_choice
  have k_l_choice := ok_l_choice (P := P) (w := w) (base := base) C F_l_choice
  have b_l_choice : Binds K fd_l_choice ["_law_stream_here", "_law_terms", "_law_sides_here", "_law_pool_here"] [] := F_l_choice.bindsN fun _ _ _ _ _ _ us hl => match us, hl with | [_, _, _, _], _ => rfl
  obtain ⟨f_l_heads, fd_l_heads, F_l_heads, g_l_heads⟩ := C.f_l_heads
  have k_l_heads := ok_l_heads (P := P) (w := w) (base := base) C F_l_heads
  have b_l_heads : Binds K fd_l_heads ["_law_terms", "_law_sides_here"] [] := F_l_heads.bindsN fun _ _ _ _ _ _ us hl => match us, hl with | [_, _], _ => rfl
  obtain ⟨f_l_tails, fd_l_tails, F_l_tails, g_l_tails⟩ := C.f_l_tails
  have k_l_tails := ok_l_tails (P := P) (w := w) (base := base) C F_l_tails
  have b_l_tails : Binds K fd_l_tails ["_law_terms", "_law_sides_here"] [] := F_l_tails.bindsN fun _ _ _ _ _ _ us hl => match us, hl with | [_, _], _ => rfl
  obtain ⟨f_l_layers_due, fd_l_layers_due, F_l_layers_due, g_l_layers_due⟩ := C.f_l_layers_due
  have k_l_layers_due := ok_l_layers_due (P := P) (w := w) (base := base) C F_l_layers_due
  have b_l_layers_due : Binds K fd_l_layers_due ["_law_told", "_law_expected"] [] := F_l_layers_due.bindsN fun _ _ _ _ _ _ us hl => match us, hl with | [_, _], _ => rfl
  obtain ⟨f_sum_layers, fd_sum_layers, F_sum_layers, g_sum_layers⟩ := C.f_sum_layers
  have k_sum_layers := ok_sum_layers (P := P) (w := w) (base := base) C F_sum_layers
  have b_sum_layers : Binds K fd_sum_layers ["terms", "box"] [] := F_sum_layers.bindsN fun _ _ _ _ _ _ us hl => match us, hl with | [_, _], _ => rfl
  obtain ⟨f_l_live, fd_l_live, F_l_live, g_l_live⟩ := C.f_l_live
  have k_l_live := ok_l_live (P := P) (w := w) (base := base) C F_l_live
  have b_l_live : Binds K fd_l_live ["_law_terms", "_law_sides_here", "_law_bounds_here", "_law_left_out"] [] := F_l_live.bindsN fun _ _ _ _ _ _ us hl => match us, hl with | [_, _, _, _], _ => rfl
  obtain ⟨f_l_leads, fd_l_leads, F_l_leads, g_l_leads⟩ := C.f_l_leads
  have k_l_leads := ok_l_leads (P := P) (w := w) (base := base) C F_l_leads
  have b_l_leads : Binds K fd_l_leads ["_law_total", "_law_tails_here", "_law_bottom", "_law_top"] [] := F_l_leads.bindsN fun _ _ _ _ _ _ us hl => match us, hl with | [_, _, _, _], _ => rfl
  refine fn_S FD sc_law rfl fun cdv A outer s H E hr Mq a1 => ?_
  exact s_is (s_T (T := (M_l_stream a1 (0 : Int)).bind fun r349 => (some (r349 : List Int)).bind fun x350 => (M_l_next x350 (5 : Int)).bind fun r354 => grd (0 < (5 : Int)) ((some ((((r354.1) + (3 : Int)) % (5 : Int)) : Int)).bind fun x355 => (some ((3 : Int) : Int)).bind fun x357 => (M_l_next (r354.2) (8 : Int)).bind fun r359 => (if (decide ((r359.1) = (5 : Int))) = true then (M_l_next (r359.2) (4 : Int)).bind fun r487 => (some (((5 : Int) + (r487.1)) : Int)).bind fun x488 => (some ((2 : Int) : Int)).bind fun x490 => some (x488, x490, r487.2) else some (x355, x357, r359.2)).bind fun s361 => (M_l_next (s361.2.2) (4 : Int)).bind fun r362 => (M_l_pool (r362.2) ((2 : Int) + (r362.1))).bind fun r363 => (some (r363.1 : List Int)).bind fun x364 => (M_l_next (r363.2) (8 : Int)).bind fun r366 => (if (decide ((r366.1) = (5 : Int))) = true then grd (([(-((10 : Int) ^ (12 : Int).toNat))]).length + x364.length ≤ sizeLine) (grd ((([(-((10 : Int) ^ (12 : Int).toNat))]) ++ x364).length + ([((10 : Int) ^ (12 : Int).toNat)]).length ≤ sizeLine) ((some (((([(-((10 : Int) ^ (12 : Int).toNat))]) ++ x364) ++ ([((10 : Int) ^ (12 : Int).toNat)])) : List Int)).bind fun x485 => some (x485, r366.2))) else some (x364, r366.2)).bind fun s368 => (M_l_next (s368.2) (8 : Int)).bind fun r369 => (atI ([(1 : Int), (1 : Int), (1 : Int), (1 : Int), (1 : Int), (1 : Int), (1 : Int), (333333 : Int)]) (r369.1)).bind fun x370 => (some (x370 : Int)).bind fun x371 => (M_l_stream a1 (1 : Int)).bind fun r373 => (M_l_names r373 (s361.1)).bind fun r375 => (some (r375.1 : List Str)).bind fun x376 => (M_l_stream a1 (2 : Int)).bind fun r378 => (some (r378 : List Int)).bind fun x379 => (M_l_domains x379 x376 (s368.1) (s361.2.1)).bind fun r383 => (M_l_sides (r383.1)).bind fun r384 => (some (r384 : List (Str × List Int))).bind fun x385 => ((if (decide ((0 : Int) < (s361.1))) = true then (M_l_next (r383.2) (8 : Int)).bind fun r390 => some ((decide ((r390.1) = (5 : Int))), r390.2) else some (false, r383.2))).bind fun c391 => (if c391.1 = true then (M_l_next (c391.2) (s361.1)).bind fun r482 => (atI x376 (r482.1)).bind fun x483 => grd (x385.length < sizeLine) (some ((dput x385 x483 ([])), r482.2)) else some (x385, c391.2)).bind fun s393 => (M_l_stream a1 (3 : Int)).bind fun r394 => (some (r394 : List Int)).bind fun x395 => (compM x376 x395 (fun x400 s402 => if true = true then (M_l_next s402 (7 : Int)).bind fun r404 => grd ((sm ((r404.1) - (3 : Int)) || sm x371) = true) (some (some ((((r404.1) - (3 : Int)) * x371), x400), r404.2)) else some (none, s402))).bind fun r405 => (some (r405.1 : List (Int × Str))).bind fun x406 => (M_l_choice (r405.2) x406 (s393.1) (s368.1)).bind fun r410 => (M_l_bounds (r410.2) (r410.1)).bind fun r411 => (some (r411.1 : List (Option Int))).bind fun x412 => (M_l_next (r411.2) (2 : Int)).bind fun r414 => (some ((decide ((r414.1) = (0 : Int))) : Bool)).bind fun x415 => (M_l_heads x406 (s393.1)).bind fun r417 => (compM r417 () (fun x419 s420 => if true = true then grd (x419.length + 1 < scanBound) (some (some (sideL x419), ())) else some (none, ()))).bind fun r422 => (some (r422.1 : List (List Int))).bind fun x423 => (M_l_tails x406 (s393.1)).bind fun r427 => (some (r427 : List (List Int))).bind fun x428 => (some ([] : List (List Int))).bind fun x430 => grd (rg (x423.length : Int) = true) ((forS (rngL 0 (x423.length : Int).toNat) (x430 : (List (List Int))) fun x436 s435 => (atI x423 x436).bind fun x467 => (compM x467 () (fun x469 s474 => (atI x428 x436).bind fun x476 => (atI x412 (0 : Int)).bind fun x477 => (atI x412 (1 : Int)).bind fun x478 => (M_l_leads x469 x476 x477 x478).bind fun r479 => if r479 = true then some (some x469, ()) else some (none, ()))).bind fun r480 => grd (s435.length < sizeLine) (some (s435 ++ [r480.1]))).bind fun s437 => (some (x406 : List (Int × Str))).bind fun x438 => (M_l_next (r414.2) ((s361.1) + (1 : Int))).bind fun r440 => (some (r440.1 : Int)).bind fun x441 => (some (([] : List (Str × List Int)) : List (Str × List Int))).bind fun x443 => grd ((cutL x376 (some x441) none).length + (cutL x376 none (some x441)).length ≤ sizeLine) ((forS ((cutL x376 (some x441) none) ++ (cutL x376 none (some x441))) (x443 : (List (Str × List Int))) fun x449 s448 => (dget (s393.1) x449).bind fun x465 => grd (s448.length < sizeLine) (some (dput s448 x449 x465))).bind fun s450 => grd (rg (2 : Int) = true) ((forL (rngL 0 (2 : Int).toNat) (() : Unit) fun x453 s452 => (M_sum_layers x438 s450).bind fun r457 => (M_l_layers_due r457 x423).bind fun r459 => if (!(r459.1)) = true then inB (some (Tm.rt false)) else (M_l_live x438 s450 x412 x415).bind fun r461 => (M_l_layers_due r461 s437).bind fun r463 => if (!(r463.1)) = true then inB (some (Tm.rt false)) else some (Bo.nx ())).bind (boK (fun s454 => grd (okG (dgL (dgT2 dgInt dgStr)) x438 x406 = true) (((if (decide (x438 = x406)) = true then ((if (deq s450 (s393.1)) = true then grd ((cutL x376 (some x441) none).length + (cutL x376 none (some x441)).length ≤ sizeLine) (grd (okG (dgL dgStr) (s450.map Prod.fst) ((cutL x376 (some x441) none) ++ (cutL x376 none (some x441))) = true) (some ((decide ((s450.map Prod.fst) = ((cutL x376 (some x441) none) ++ (cutL x376 none (some x441))))), ()))) else some (false, ()))).bind fun c455 => some (c455.1, ()) else some (false, ()))).bind fun c456 => some (c456.1))) id)))))) (s_letO (i := 1) (oL pInt) sc_law.nd (o_kd (E := fun (b_ : ((Unit × Unit) × (List Int))) => (oL pInt) b_.2) (x_FF_o (kk := 1) (E1 := (pS K)) (E2 := pInt) k_l_stream (hr.mono (by decide)) g_l_stream F_l_stream.kp b_l_stream (x_var (p := (pS K) a1) 0) (fun _ => x_int (i := 0)))) fun (b351 : ((Unit × Unit) × (List Int))) x350 v353 => s_T (T := (M_l_next x350 (5 : Int)).bind fun r354 => grd (0 < (5 : Int)) ((some ((((r354.1) + (3 : Int)) % (5 : Int)) : Int)).bind fun x355 => (some ((3 : Int) : Int)).bind fun x357 => (M_l_next (r354.2) (8 : Int)).bind fun r359 => (if (decide ((r359.1) = (5 : Int))) = true then (M_l_next (r359.2) (4 : Int)).bind fun r487 => (some (((5 : Int) + (r487.1)) : Int)).bind fun x488 => (some ((2 : Int) : Int)).bind fun x490 => some (x488, x490, r487.2) else some (x355, x357, r359.2)).bind fun s361 => (M_l_next (s361.2.2) (4 : Int)).bind fun r362 => (M_l_pool (r362.2) ((2 : Int) + (r362.1))).bind fun r363 => (some (r363.1 : List Int)).bind fun x364 => (M_l_next (r363.2) (8 : Int)).bind fun r366 => (if (decide ((r366.1) = (5 : Int))) = true then grd (([(-((10 : Int) ^ (12 : Int).toNat))]).length + x364.length ≤ sizeLine) (grd ((([(-((10 : Int) ^ (12 : Int).toNat))]) ++ x364).length + ([((10 : Int) ^ (12 : Int).toNat)]).length ≤ sizeLine) ((some (((([(-((10 : Int) ^ (12 : Int).toNat))]) ++ x364) ++ ([((10 : Int) ^ (12 : Int).toNat)])) : List Int)).bind fun x485 => some (x485, r366.2))) else some (x364, r366.2)).bind fun s368 => (M_l_next (s368.2) (8 : Int)).bind fun r369 => (atI ([(1 : Int), (1 : Int), (1 : Int), (1 : Int), (1 : Int), (1 : Int), (1 : Int), (333333 : Int)]) (r369.1)).bind fun x370 => (some (x370 : Int)).bind fun x371 => (M_l_stream a1 (1 : Int)).bind fun r373 => (M_l_names r373 (s361.1)).bind fun r375 => (some (r375.1 : List Str)).bind fun x376 => (M_l_stream a1 (2 : Int)).bind fun r378 => (some (r378 : List Int)).bind fun x379 => (M_l_domains x379 x376 (s368.1) (s361.2.1)).bind fun r383 => (M_l_sides (r383.1)).bind fun r384 => (some (r384 : List (Str × List Int))).bind fun x385 => ((if (decide ((0 : Int) < (s361.1))) = true then (M_l_next (r383.2) (8 : Int)).bind fun r390 => some ((decide ((r390.1) = (5 : Int))), r390.2) else some (false, r383.2))).bind fun c391 => (if c391.1 = true then (M_l_next (c391.2) (s361.1)).bind fun r482 => (atI x376 (r482.1)).bind fun x483 => grd (x385.length < sizeLine) (some ((dput x385 x483 ([])), r482.2)) else some (x385, c391.2)).bind fun s393 => (M_l_stream a1 (3 : Int)).bind fun r394 => (some (r394 : List Int)).bind fun x395 => (compM x376 x395 (fun x400 s402 => if true = true then (M_l_next s402 (7 : Int)).bind fun r404 => grd ((sm ((r404.1) - (3 : Int)) || sm x371) = true) (some (some ((((r404.1) - (3 : Int)) * x371), x400), r404.2)) else some (none, s402))).bind fun r405 => (some (r405.1 : List (Int × Str))).bind fun x406 => (M_l_choice (r405.2) x406 (s393.1) (s368.1)).bind fun r410 => (M_l_bounds (r410.2) (r410.1)).bind fun r411 => (some (r411.1 : List (Option Int))).bind fun x412 => (M_l_next (r411.2) (2 : Int)).bind fun r414 => (some ((decide ((r414.1) = (0 : Int))) : Bool)).bind fun x415 => (M_l_heads x406 (s393.1)).bind fun r417 => (compM r417 () (fun x419 s420 => if true = true then grd (x419.length + 1 < scanBound) (some (some (sideL x419), ())) else some (none, ()))).bind fun r422 => (some (r422.1 : List (List Int))).bind fun x423 => (M_l_tails x406 (s393.1)).bind fun r427 => (some (r427 : List (List Int))).bind fun x428 => (some ([] : List (List Int))).bind fun x430 => grd (rg (x423.length : Int) = true) ((forS (rngL 0 (x423.length : Int).toNat) (x430 : (List (List Int))) fun x436 s435 => (atI x423 x436).bind fun x467 => (compM x467 () (fun x469 s474 => (atI x428 x436).bind fun x476 => (atI x412 (0 : Int)).bind fun x477 => (atI x412 (1 : Int)).bind fun x478 => (M_l_leads x469 x476 x477 x478).bind fun r479 => if r479 = true then some (some x469, ()) else some (none, ()))).bind fun r480 => grd (s435.length < sizeLine) (some (s435 ++ [r480.1]))).bind fun s437 => (some (x406 : List (Int × Str))).bind fun x438 => (M_l_next (r414.2) ((s361.1) + (1 : Int))).bind fun r440 => (some (r440.1 : Int)).bind fun x441 => (some (([] : List (Str × List Int)) : List (Str × List Int))).bind fun x443 => grd ((cutL x376 (some x441) none).length + (cutL x376 none (some x441)).length ≤ sizeLine) ((forS ((cutL x376 (some x441) none) ++ (cutL x376 none (some x441))) (x443 : (List (Str × List Int))) fun x449 s448 => (dget (s393.1) x449).bind fun x465 => grd (s448.length < sizeLine) (some (dput s448 x449 x465))).bind fun s450 => grd (rg (2 : Int) = true) ((forL (rngL 0 (2 : Int).toNat) (() : Unit) fun x453 s452 => (M_sum_layers x438 s450).bind fun r457 => (M_l_layers_due r457 x423).bind fun r459 => if (!(r459.1)) = true then inB (some (Tm.rt false)) else (M_l_live x438 s450 x412 x415).bind fun r461 => (M_l_layers_due r461 s437).bind fun r463 => if (!(r463.1)) = true then inB (some (Tm.rt false)) else some (Bo.nx ())).bind (boK (fun s454 => grd (okG (dgL (dgT2 dgInt dgStr)) x438 x406 = true) (((if (decide (x438 = x406)) = true then ((if (deq s450 (s393.1)) = true then grd ((cutL x376 (some x441) none).length + (cutL x376 none (some x441)).length ≤ sizeLine) (grd (okG (dgL dgStr) (s450.map Prod.fst) ((cutL x376 (some x441) none) ++ (cutL x376 none (some x441))) = true) (some ((decide ((s450.map Prod.fst) = ((cutL x376 (some x441) none) ++ (cutL x376 none (some x441))))), ()))) else some (false, ()))).bind fun c455 => some (c455.1, ()) else some (false, ()))).bind fun c456 => some (c456.1))) id)))))) (s_let (i := 2) pInt sc_law.nd (x_kd (E := fun (b_ : ((((Unit × Unit) × (Int × (List Int))) × Unit) × Unit)) => pInt (((b_.1.1.2.1) + (3 : Int)) % (5 : Int))) (x_mod (x_kd (E := fun (b_ : (((Unit × Unit) × (Int × (List Int))) × Unit)) => pInt ((b_.1.2.1) + (3 : Int))) (x_intI m_int (x_kd (E := fun (b_ : (((Unit × Unit) × (Int × (List Int))) × Unit)) => pInt ((b_.1.2.1) + (3 : Int))) (x_add (x_kd (E := fun (b_ : ((Unit × Unit) × (Int × (List Int)))) => pInt b_.2.1) (x_OF_f (kk := 1) (E1 := (oL pInt)) (E2 := pInt) (s1 := fun (_ : Unit) (_ : Unit) => x350) (v1 := v353) k_l_next (hr.mono (by decide)) g_l_next F_l_next.kp b_l_next 0 (x_var (p := pV v353) 1) (fun _ => x_int (i := 5)) (fun _ _ => rfl))) (fun _ => x_int (i := 3)))))) (fun _ => x_int (i := 5)))) fun (b356 : ((((Unit × Unit) × (Int × (List Int))) × Unit) × Unit)) x355 => s_T (T := (some ((3 : Int) : Int)).bind fun x357 => (M_l_next (b356.1.1.2.2) (8 : Int)).bind fun r359 => (if (decide ((r359.1) = (5 : Int))) = true then (M_l_next (r359.2) (4 : Int)).bind fun r487 => (some (((5 : Int) + (r487.1)) : Int)).bind fun x488 => (some ((2 : Int) : Int)).bind fun x490 => some (x488, x490, r487.2) else some (x355, x357, r359.2)).bind fun s361 => (M_l_next (s361.2.2) (4 : Int)).bind fun r362 => (M_l_pool (r362.2) ((2 : Int) + (r362.1))).bind fun r363 => (some (r363.1 : List Int)).bind fun x364 => (M_l_next (r363.2) (8 : Int)).bind fun r366 => (if (decide ((r366.1) = (5 : Int))) = true then grd (([(-((10 : Int) ^ (12 : Int).toNat))]).length + x364.length ≤ sizeLine) (grd ((([(-((10 : Int) ^ (12 : Int).toNat))]) ++ x364).length + ([((10 : Int) ^ (12 : Int).toNat)]).length ≤ sizeLine) ((some (((([(-((10 : Int) ^ (12 : Int).toNat))]) ++ x364) ++ ([((10 : Int) ^ (12 : Int).toNat)])) : List Int)).bind fun x485 => some (x485, r366.2))) else some (x364, r366.2)).bind fun s368 => (M_l_next (s368.2) (8 : Int)).bind fun r369 => (atI ([(1 : Int), (1 : Int), (1 : Int), (1 : Int), (1 : Int), (1 : Int), (1 : Int), (333333 : Int)]) (r369.1)).bind fun x370 => (some (x370 : Int)).bind fun x371 => (M_l_stream a1 (1 : Int)).bind fun r373 => (M_l_names r373 (s361.1)).bind fun r375 => (some (r375.1 : List Str)).bind fun x376 => (M_l_stream a1 (2 : Int)).bind fun r378 => (some (r378 : List Int)).bind fun x379 => (M_l_domains x379 x376 (s368.1) (s361.2.1)).bind fun r383 => (M_l_sides (r383.1)).bind fun r384 => (some (r384 : List (Str × List Int))).bind fun x385 => ((if (decide ((0 : Int) < (s361.1))) = true then (M_l_next (r383.2) (8 : Int)).bind fun r390 => some ((decide ((r390.1) = (5 : Int))), r390.2) else some (false, r383.2))).bind fun c391 => (if c391.1 = true then (M_l_next (c391.2) (s361.1)).bind fun r482 => (atI x376 (r482.1)).bind fun x483 => grd (x385.length < sizeLine) (some ((dput x385 x483 ([])), r482.2)) else some (x385, c391.2)).bind fun s393 => (M_l_stream a1 (3 : Int)).bind fun r394 => (some (r394 : List Int)).bind fun x395 => (compM x376 x395 (fun x400 s402 => if true = true then (M_l_next s402 (7 : Int)).bind fun r404 => grd ((sm ((r404.1) - (3 : Int)) || sm x371) = true) (some (some ((((r404.1) - (3 : Int)) * x371), x400), r404.2)) else some (none, s402))).bind fun r405 => (some (r405.1 : List (Int × Str))).bind fun x406 => (M_l_choice (r405.2) x406 (s393.1) (s368.1)).bind fun r410 => (M_l_bounds (r410.2) (r410.1)).bind fun r411 => (some (r411.1 : List (Option Int))).bind fun x412 => (M_l_next (r411.2) (2 : Int)).bind fun r414 => (some ((decide ((r414.1) = (0 : Int))) : Bool)).bind fun x415 => (M_l_heads x406 (s393.1)).bind fun r417 => (compM r417 () (fun x419 s420 => if true = true then grd (x419.length + 1 < scanBound) (some (some (sideL x419), ())) else some (none, ()))).bind fun r422 => (some (r422.1 : List (List Int))).bind fun x423 => (M_l_tails x406 (s393.1)).bind fun r427 => (some (r427 : List (List Int))).bind fun x428 => (some ([] : List (List Int))).bind fun x430 => grd (rg (x423.length : Int) = true) ((forS (rngL 0 (x423.length : Int).toNat) (x430 : (List (List Int))) fun x436 s435 => (atI x423 x436).bind fun x467 => (compM x467 () (fun x469 s474 => (atI x428 x436).bind fun x476 => (atI x412 (0 : Int)).bind fun x477 => (atI x412 (1 : Int)).bind fun x478 => (M_l_leads x469 x476 x477 x478).bind fun r479 => if r479 = true then some (some x469, ()) else some (none, ()))).bind fun r480 => grd (s435.length < sizeLine) (some (s435 ++ [r480.1]))).bind fun s437 => (some (x406 : List (Int × Str))).bind fun x438 => (M_l_next (r414.2) ((s361.1) + (1 : Int))).bind fun r440 => (some (r440.1 : Int)).bind fun x441 => (some (([] : List (Str × List Int)) : List (Str × List Int))).bind fun x443 => grd ((cutL x376 (some x441) none).length + (cutL x376 none (some x441)).length ≤ sizeLine) ((forS ((cutL x376 (some x441) none) ++ (cutL x376 none (some x441))) (x443 : (List (Str × List Int))) fun x449 s448 => (dget (s393.1) x449).bind fun x465 => grd (s448.length < sizeLine) (some (dput s448 x449 x465))).bind fun s450 => grd (rg (2 : Int) = true) ((forL (rngL 0 (2 : Int).toNat) (() : Unit) fun x453 s452 => (M_sum_layers x438 s450).bind fun r457 => (M_l_layers_due r457 x423).bind fun r459 => if (!(r459.1)) = true then inB (some (Tm.rt false)) else (M_l_live x438 s450 x412 x415).bind fun r461 => (M_l_layers_due r461 s437).bind fun r463 => if (!(r463.1)) = true then inB (some (Tm.rt false)) else some (Bo.nx ())).bind (boK (fun s454 => grd (okG (dgL (dgT2 dgInt dgStr)) x438 x406 = true) (((if (decide (x438 = x406)) = true then ((if (deq s450 (s393.1)) = true then grd ((cutL x376 (some x441) none).length + (cutL x376 none (some x441)).length ≤ sizeLine) (grd (okG (dgL dgStr) (s450.map Prod.fst) ((cutL x376 (some x441) none) ++ (cutL x376 none (some x441))) = true) (some ((decide ((s450.map Prod.fst) = ((cutL x376 (some x441) none) ++ (cutL x376 none (some x441))))), ()))) else some (false, ()))).bind fun c455 => some (c455.1, ()) else some (false, ()))).bind fun c456 => some (c456.1))) id))))) (s_let (i := 3) pInt sc_law.nd (x_int (i := 3)) fun (b358 : Unit) x357 => s_T (T := (M_l_next (b356.1.1.2.2) (8 : Int)).bind fun r359 => (if (decide ((r359.1) = (5 : Int))) = true then (M_l_next (r359.2) (4 : Int)).bind fun r487 => (some (((5 : Int) + (r487.1)) : Int)).bind fun x488 => (some ((2 : Int) : Int)).bind fun x490 => some (x488, x490, r487.2) else some (x355, x357, r359.2)).bind fun s361 => (M_l_next (s361.2.2) (4 : Int)).bind fun r362 => (M_l_pool (r362.2) ((2 : Int) + (r362.1))).bind fun r363 => (some (r363.1 : List Int)).bind fun x364 => (M_l_next (r363.2) (8 : Int)).bind fun r366 => (if (decide ((r366.1) = (5 : Int))) = true then grd (([(-((10 : Int) ^ (12 : Int).toNat))]).length + x364.length ≤ sizeLine) (grd ((([(-((10 : Int) ^ (12 : Int).toNat))]) ++ x364).length + ([((10 : Int) ^ (12 : Int).toNat)]).length ≤ sizeLine) ((some (((([(-((10 : Int) ^ (12 : Int).toNat))]) ++ x364) ++ ([((10 : Int) ^ (12 : Int).toNat)])) : List Int)).bind fun x485 => some (x485, r366.2))) else some (x364, r366.2)).bind fun s368 => (M_l_next (s368.2) (8 : Int)).bind fun r369 => (atI ([(1 : Int), (1 : Int), (1 : Int), (1 : Int), (1 : Int), (1 : Int), (1 : Int), (333333 : Int)]) (r369.1)).bind fun x370 => (some (x370 : Int)).bind fun x371 => (M_l_stream a1 (1 : Int)).bind fun r373 => (M_l_names r373 (s361.1)).bind fun r375 => (some (r375.1 : List Str)).bind fun x376 => (M_l_stream a1 (2 : Int)).bind fun r378 => (some (r378 : List Int)).bind fun x379 => (M_l_domains x379 x376 (s368.1) (s361.2.1)).bind fun r383 => (M_l_sides (r383.1)).bind fun r384 => (some (r384 : List (Str × List Int))).bind fun x385 => ((if (decide ((0 : Int) < (s361.1))) = true then (M_l_next (r383.2) (8 : Int)).bind fun r390 => some ((decide ((r390.1) = (5 : Int))), r390.2) else some (false, r383.2))).bind fun c391 => (if c391.1 = true then (M_l_next (c391.2) (s361.1)).bind fun r482 => (atI x376 (r482.1)).bind fun x483 => grd (x385.length < sizeLine) (some ((dput x385 x483 ([])), r482.2)) else some (x385, c391.2)).bind fun s393 => (M_l_stream a1 (3 : Int)).bind fun r394 => (some (r394 : List Int)).bind fun x395 => (compM x376 x395 (fun x400 s402 => if true = true then (M_l_next s402 (7 : Int)).bind fun r404 => grd ((sm ((r404.1) - (3 : Int)) || sm x371) = true) (some (some ((((r404.1) - (3 : Int)) * x371), x400), r404.2)) else some (none, s402))).bind fun r405 => (some (r405.1 : List (Int × Str))).bind fun x406 => (M_l_choice (r405.2) x406 (s393.1) (s368.1)).bind fun r410 => (M_l_bounds (r410.2) (r410.1)).bind fun r411 => (some (r411.1 : List (Option Int))).bind fun x412 => (M_l_next (r411.2) (2 : Int)).bind fun r414 => (some ((decide ((r414.1) = (0 : Int))) : Bool)).bind fun x415 => (M_l_heads x406 (s393.1)).bind fun r417 => (compM r417 () (fun x419 s420 => if true = true then grd (x419.length + 1 < scanBound) (some (some (sideL x419), ())) else some (none, ()))).bind fun r422 => (some (r422.1 : List (List Int))).bind fun x423 => (M_l_tails x406 (s393.1)).bind fun r427 => (some (r427 : List (List Int))).bind fun x428 => (some ([] : List (List Int))).bind fun x430 => grd (rg (x423.length : Int) = true) ((forS (rngL 0 (x423.length : Int).toNat) (x430 : (List (List Int))) fun x436 s435 => (atI x423 x436).bind fun x467 => (compM x467 () (fun x469 s474 => (atI x428 x436).bind fun x476 => (atI x412 (0 : Int)).bind fun x477 => (atI x412 (1 : Int)).bind fun x478 => (M_l_leads x469 x476 x477 x478).bind fun r479 => if r479 = true then some (some x469, ()) else some (none, ()))).bind fun r480 => grd (s435.length < sizeLine) (some (s435 ++ [r480.1]))).bind fun s437 => (some (x406 : List (Int × Str))).bind fun x438 => (M_l_next (r414.2) ((s361.1) + (1 : Int))).bind fun r440 => (some (r440.1 : Int)).bind fun x441 => (some (([] : List (Str × List Int)) : List (Str × List Int))).bind fun x443 => grd ((cutL x376 (some x441) none).length + (cutL x376 none (some x441)).length ≤ sizeLine) ((forS ((cutL x376 (some x441) none) ++ (cutL x376 none (some x441))) (x443 : (List (Str × List Int))) fun x449 s448 => (dget (s393.1) x449).bind fun x465 => grd (s448.length < sizeLine) (some (dput s448 x449 x465))).bind fun s450 => grd (rg (2 : Int) = true) ((forL (rngL 0 (2 : Int).toNat) (() : Unit) fun x453 s452 => (M_sum_layers x438 s450).bind fun r457 => (M_l_layers_due r457 x423).bind fun r459 => if (!(r459.1)) = true then inB (some (Tm.rt false)) else (M_l_live x438 s450 x412 x415).bind fun r461 => (M_l_layers_due r461 s437).bind fun r463 => if (!(r463.1)) = true then inB (some (Tm.rt false)) else some (Bo.nx ())).bind (boK (fun s454 => grd (okG (dgL (dgT2 dgInt dgStr)) x438 x406 = true) (((if (decide (x438 = x406)) = true then ((if (deq s450 (s393.1)) = true then grd ((cutL x376 (some x441) none).length + (cutL x376 none (some x441)).length ≤ sizeLine) (grd (okG (dgL dgStr) (s450.map Prod.fst) ((cutL x376 (some x441) none) ++ (cutL x376 none (some x441))) = true) (some ((decide ((s450.map Prod.fst) = ((cutL x376 (some x441) none) ++ (cutL x376 none (some x441))))), ()))) else some (false, ()))).bind fun c455 => some (c455.1, ()) else some (false, ()))).bind fun c456 => some (c456.1))) id))))) (s_ifN (C := fun s_ : Int × Int × (List Int) => ([some ((pS K) a1), some (pV v353), some (pInt s_.1), some (pInt s_.2.1), none, none, none, none, none, none, none, none, none, none, none, none, none, none, none, none, none, none, none, none], [⟨v353, (oL pInt) s_.2.2, none⟩])) (t_kd (c := fun (b_ : (((Unit × Unit) × (Int × (List Int))) × Unit)) => (decide ((b_.1.2.1) = (5 : Int)))) (t_eqI (x_kd (E := fun (b_ : ((Unit × Unit) × (Int × (List Int)))) => pInt b_.2.1) (x_OF_f (kk := 1) (E1 := (oL pInt)) (E2 := pInt) (s1 := fun (_ : Unit) (_ : Unit) => b356.1.1.2.2) (v1 := v353) k_l_next (hr.mono (by decide)) g_l_next F_l_next.kp b_l_next 0 (x_var (p := pV v353) 1) (fun _ => x_int (i := 8)) (fun _ _ => rfl))) (fun _ => x_int (i := 5)))) (fun (b360 : (((Unit × Unit) × (Int × (List Int))) × Unit)) => s_T (T := (M_l_next (b360.1.2.2) (4 : Int)).bind fun r487 => (some (((5 : Int) + (r487.1)) : Int)).bind fun x488 => (some ((2 : Int) : Int)).bind fun x490 => some (x488, x490, r487.2)) (s_let (i := 2) pInt sc_law.nd (x_kd (E := fun (b_ : (Unit × ((Unit × Unit) × (Int × (List Int))))) => pInt ((5 : Int) + (b_.2.2.1))) (x_add (x_int (i := 5)) (fun _ => x_kd (E := fun (b_ : ((Unit × Unit) × (Int × (List Int)))) => pInt b_.2.1) (x_OF_f (kk := 1) (E1 := (oL pInt)) (E2 := pInt) (s1 := fun (_ : Unit) (_ : Unit) => b360.1.2.2) (v1 := v353) k_l_next (hr.mono (by decide)) g_l_next F_l_next.kp b_l_next 0 (x_var (p := pV v353) 1) (fun _ => x_int (i := 4)) (fun _ _ => rfl))))) fun (b489 : (Unit × ((Unit × Unit) × (Int × (List Int))))) x488 => s_T (T := (some ((2 : Int) : Int)).bind fun x490 => some (x488, x490, b489.2.2.2)) (s_let (i := 3) pInt sc_law.nd (x_int (i := 2)) fun (b491 : Unit) x490 => s_end (x488, x490, b489.2.2.2) rfl ⟨rfl, rfl, rfl, rfl, trivial⟩ (List.Sublist.refl _)))) (fun (b360 : (((Unit × Unit) × (Int × (List Int))) × Unit)) => s_end (x355, x357, b360.1.2.2) rfl ⟨rfl, rfl, rfl, rfl, trivial⟩ (List.Sublist.refl _)) fun (b360 : (((Unit × Unit) × (Int × (List Int))) × Unit)) s361 => s_T (T := (M_l_next (s361.2.2) (4 : Int)).bind fun r362 => (M_l_pool (r362.2) ((2 : Int) + (r362.1))).bind fun r363 => (some (r363.1 : List Int)).bind fun x364 => (M_l_next (r363.2) (8 : Int)).bind fun r366 => (if (decide ((r366.1) = (5 : Int))) = true then grd (([(-((10 : Int) ^ (12 : Int).toNat))]).length + x364.length ≤ sizeLine) (grd ((([(-((10 : Int) ^ (12 : Int).toNat))]) ++ x364).length + ([((10 : Int) ^ (12 : Int).toNat)]).length ≤ sizeLine) ((some (((([(-((10 : Int) ^ (12 : Int).toNat))]) ++ x364) ++ ([((10 : Int) ^ (12 : Int).toNat)])) : List Int)).bind fun x485 => some (x485, r366.2))) else some (x364, r366.2)).bind fun s368 => (M_l_next (s368.2) (8 : Int)).bind fun r369 => (atI ([(1 : Int), (1 : Int), (1 : Int), (1 : Int), (1 : Int), (1 : Int), (1 : Int), (333333 : Int)]) (r369.1)).bind fun x370 => (some (x370 : Int)).bind fun x371 => (M_l_stream a1 (1 : Int)).bind fun r373 => (M_l_names r373 (s361.1)).bind fun r375 => (some (r375.1 : List Str)).bind fun x376 => (M_l_stream a1 (2 : Int)).bind fun r378 => (some (r378 : List Int)).bind fun x379 => (M_l_domains x379 x376 (s368.1) (s361.2.1)).bind fun r383 => (M_l_sides (r383.1)).bind fun r384 => (some (r384 : List (Str × List Int))).bind fun x385 => ((if (decide ((0 : Int) < (s361.1))) = true then (M_l_next (r383.2) (8 : Int)).bind fun r390 => some ((decide ((r390.1) = (5 : Int))), r390.2) else some (false, r383.2))).bind fun c391 => (if c391.1 = true then (M_l_next (c391.2) (s361.1)).bind fun r482 => (atI x376 (r482.1)).bind fun x483 => grd (x385.length < sizeLine) (some ((dput x385 x483 ([])), r482.2)) else some (x385, c391.2)).bind fun s393 => (M_l_stream a1 (3 : Int)).bind fun r394 => (some (r394 : List Int)).bind fun x395 => (compM x376 x395 (fun x400 s402 => if true = true then (M_l_next s402 (7 : Int)).bind fun r404 => grd ((sm ((r404.1) - (3 : Int)) || sm x371) = true) (some (some ((((r404.1) - (3 : Int)) * x371), x400), r404.2)) else some (none, s402))).bind fun r405 => (some (r405.1 : List (Int × Str))).bind fun x406 => (M_l_choice (r405.2) x406 (s393.1) (s368.1)).bind fun r410 => (M_l_bounds (r410.2) (r410.1)).bind fun r411 => (some (r411.1 : List (Option Int))).bind fun x412 => (M_l_next (r411.2) (2 : Int)).bind fun r414 => (some ((decide ((r414.1) = (0 : Int))) : Bool)).bind fun x415 => (M_l_heads x406 (s393.1)).bind fun r417 => (compM r417 () (fun x419 s420 => if true = true then grd (x419.length + 1 < scanBound) (some (some (sideL x419), ())) else some (none, ()))).bind fun r422 => (some (r422.1 : List (List Int))).bind fun x423 => (M_l_tails x406 (s393.1)).bind fun r427 => (some (r427 : List (List Int))).bind fun x428 => (some ([] : List (List Int))).bind fun x430 => grd (rg (x423.length : Int) = true) ((forS (rngL 0 (x423.length : Int).toNat) (x430 : (List (List Int))) fun x436 s435 => (atI x423 x436).bind fun x467 => (compM x467 () (fun x469 s474 => (atI x428 x436).bind fun x476 => (atI x412 (0 : Int)).bind fun x477 => (atI x412 (1 : Int)).bind fun x478 => (M_l_leads x469 x476 x477 x478).bind fun r479 => if r479 = true then some (some x469, ()) else some (none, ()))).bind fun r480 => grd (s435.length < sizeLine) (some (s435 ++ [r480.1]))).bind fun s437 => (some (x406 : List (Int × Str))).bind fun x438 => (M_l_next (r414.2) ((s361.1) + (1 : Int))).bind fun r440 => (some (r440.1 : Int)).bind fun x441 => (some (([] : List (Str × List Int)) : List (Str × List Int))).bind fun x443 => grd ((cutL x376 (some x441) none).length + (cutL x376 none (some x441)).length ≤ sizeLine) ((forS ((cutL x376 (some x441) none) ++ (cutL x376 none (some x441))) (x443 : (List (Str × List Int))) fun x449 s448 => (dget (s393.1) x449).bind fun x465 => grd (s448.length < sizeLine) (some (dput s448 x449 x465))).bind fun s450 => grd (rg (2 : Int) = true) ((forL (rngL 0 (2 : Int).toNat) (() : Unit) fun x453 s452 => (M_sum_layers x438 s450).bind fun r457 => (M_l_layers_due r457 x423).bind fun r459 => if (!(r459.1)) = true then inB (some (Tm.rt false)) else (M_l_live x438 s450 x412 x415).bind fun r461 => (M_l_layers_due r461 s437).bind fun r463 => if (!(r463.1)) = true then inB (some (Tm.rt false)) else some (Bo.nx ())).bind (boK (fun s454 => grd (okG (dgL (dgT2 dgInt dgStr)) x438 x406 = true) (((if (decide (x438 = x406)) = true then ((if (deq s450 (s393.1)) = true then grd ((cutL x376 (some x441) none).length + (cutL x376 none (some x441)).length ≤ sizeLine) (grd (okG (dgL dgStr) (s450.map Prod.fst) ((cutL x376 (some x441) none) ++ (cutL x376 none (some x441))) = true) (some ((decide ((s450.map Prod.fst) = ((cutL x376 (some x441) none) ++ (cutL x376 none (some x441))))), ()))) else some (false, ()))).bind fun c455 => some (c455.1, ()) else some (false, ()))).bind fun c456 => some (c456.1))) id))))) (s_let (i := 4) (pL pInt) sc_law.nd (x_kd (E := fun (b_ : ((Unit × (Unit × ((Unit × Unit) × (Int × (List Int))))) × ((List Int) × (List Int)))) => (pL pInt) b_.2.1) (x_frz (o_kd (E := fun (b_ : ((Unit × (Unit × ((Unit × Unit) × (Int × (List Int))))) × ((List Int) × (List Int)))) => (oL pInt) b_.2.1) (x_OF_o (kk := 2) (E1 := (oL pInt)) (E2 := pInt) (v1 := v353) k_l_pool (hr.mono (by decide)) g_l_pool F_l_pool.kp b_l_pool 0 (x_var (p := pV v353) 1) (fun _ => x_kd (E := fun (b_ : (Unit × ((Unit × Unit) × (Int × (List Int))))) => pInt ((2 : Int) + (b_.2.2.1))) (x_add (x_int (i := 2)) (fun _ => x_kd (E := fun (b_ : ((Unit × Unit) × (Int × (List Int)))) => pInt b_.2.1) (x_OF_f (kk := 1) (E1 := (oL pInt)) (E2 := pInt) (s1 := fun (_ : Unit) (_ : Unit) => s361.2.2) (v1 := v353) k_l_next (hr.mono (by decide)) g_l_next F_l_next.kp b_l_next 0 (x_var (p := pV v353) 1) (fun _ => x_int (i := 4)) (fun _ _ => rfl))))) (fun _ _ => rfl))))) fun (b365 : ((Unit × (Unit × ((Unit × Unit) × (Int × (List Int))))) × ((List Int) × (List Int)))) x364 => s_T (T := (M_l_next (b365.2.2) (8 : Int)).bind fun r366 => (if (decide ((r366.1) = (5 : Int))) = true then grd (([(-((10 : Int) ^ (12 : Int).toNat))]).length + x364.length ≤ sizeLine) (grd ((([(-((10 : Int) ^ (12 : Int).toNat))]) ++ x364).length + ([((10 : Int) ^ (12 : Int).toNat)]).length ≤ sizeLine) ((some (((([(-((10 : Int) ^ (12 : Int).toNat))]) ++ x364) ++ ([((10 : Int) ^ (12 : Int).toNat)])) : List Int)).bind fun x485 => some (x485, r366.2))) else some (x364, r366.2)).bind fun s368 => (M_l_next (s368.2) (8 : Int)).bind fun r369 => (atI ([(1 : Int), (1 : Int), (1 : Int), (1 : Int), (1 : Int), (1 : Int), (1 : Int), (333333 : Int)]) (r369.1)).bind fun x370 => (some (x370 : Int)).bind fun x371 => (M_l_stream a1 (1 : Int)).bind fun r373 => (M_l_names r373 (s361.1)).bind fun r375 => (some (r375.1 : List Str)).bind fun x376 => (M_l_stream a1 (2 : Int)).bind fun r378 => (some (r378 : List Int)).bind fun x379 => (M_l_domains x379 x376 (s368.1) (s361.2.1)).bind fun r383 => (M_l_sides (r383.1)).bind fun r384 => (some (r384 : List (Str × List Int))).bind fun x385 => ((if (decide ((0 : Int) < (s361.1))) = true then (M_l_next (r383.2) (8 : Int)).bind fun r390 => some ((decide ((r390.1) = (5 : Int))), r390.2) else some (false, r383.2))).bind fun c391 => (if c391.1 = true then (M_l_next (c391.2) (s361.1)).bind fun r482 => (atI x376 (r482.1)).bind fun x483 => grd (x385.length < sizeLine) (some ((dput x385 x483 ([])), r482.2)) else some (x385, c391.2)).bind fun s393 => (M_l_stream a1 (3 : Int)).bind fun r394 => (some (r394 : List Int)).bind fun x395 => (compM x376 x395 (fun x400 s402 => if true = true then (M_l_next s402 (7 : Int)).bind fun r404 => grd ((sm ((r404.1) - (3 : Int)) || sm x371) = true) (some (some ((((r404.1) - (3 : Int)) * x371), x400), r404.2)) else some (none, s402))).bind fun r405 => (some (r405.1 : List (Int × Str))).bind fun x406 => (M_l_choice (r405.2) x406 (s393.1) (s368.1)).bind fun r410 => (M_l_bounds (r410.2) (r410.1)).bind fun r411 => (some (r411.1 : List (Option Int))).bind fun x412 => (M_l_next (r411.2) (2 : Int)).bind fun r414 => (some ((decide ((r414.1) = (0 : Int))) : Bool)).bind fun x415 => (M_l_heads x406 (s393.1)).bind fun r417 => (compM r417 () (fun x419 s420 => if true = true then grd (x419.length + 1 < scanBound) (some (some (sideL x419), ())) else some (none, ()))).bind fun r422 => (some (r422.1 : List (List Int))).bind fun x423 => (M_l_tails x406 (s393.1)).bind fun r427 => (some (r427 : List (List Int))).bind fun x428 => (some ([] : List (List Int))).bind fun x430 => grd (rg (x423.length : Int) = true) ((forS (rngL 0 (x423.length : Int).toNat) (x430 : (List (List Int))) fun x436 s435 => (atI x423 x436).bind fun x467 => (compM x467 () (fun x469 s474 => (atI x428 x436).bind fun x476 => (atI x412 (0 : Int)).bind fun x477 => (atI x412 (1 : Int)).bind fun x478 => (M_l_leads x469 x476 x477 x478).bind fun r479 => if r479 = true then some (some x469, ()) else some (none, ()))).bind fun r480 => grd (s435.length < sizeLine) (some (s435 ++ [r480.1]))).bind fun s437 => (some (x406 : List (Int × Str))).bind fun x438 => (M_l_next (r414.2) ((s361.1) + (1 : Int))).bind fun r440 => (some (r440.1 : Int)).bind fun x441 => (some (([] : List (Str × List Int)) : List (Str × List Int))).bind fun x443 => grd ((cutL x376 (some x441) none).length + (cutL x376 none (some x441)).length ≤ sizeLine) ((forS ((cutL x376 (some x441) none) ++ (cutL x376 none (some x441))) (x443 : (List (Str × List Int))) fun x449 s448 => (dget (s393.1) x449).bind fun x465 => grd (s448.length < sizeLine) (some (dput s448 x449 x465))).bind fun s450 => grd (rg (2 : Int) = true) ((forL (rngL 0 (2 : Int).toNat) (() : Unit) fun x453 s452 => (M_sum_layers x438 s450).bind fun r457 => (M_l_layers_due r457 x423).bind fun r459 => if (!(r459.1)) = true then inB (some (Tm.rt false)) else (M_l_live x438 s450 x412 x415).bind fun r461 => (M_l_layers_due r461 s437).bind fun r463 => if (!(r463.1)) = true then inB (some (Tm.rt false)) else some (Bo.nx ())).bind (boK (fun s454 => grd (okG (dgL (dgT2 dgInt dgStr)) x438 x406 = true) (((if (decide (x438 = x406)) = true then ((if (deq s450 (s393.1)) = true then grd ((cutL x376 (some x441) none).length + (cutL x376 none (some x441)).length ≤ sizeLine) (grd (okG (dgL dgStr) (s450.map Prod.fst) ((cutL x376 (some x441) none) ++ (cutL x376 none (some x441))) = true) (some ((decide ((s450.map Prod.fst) = ((cutL x376 (some x441) none) ++ (cutL x376 none (some x441))))), ()))) else some (false, ()))).bind fun c455 => some (c455.1, ()) else some (false, ()))).bind fun c456 => some (c456.1))) id))))) (s_ifN (C := fun s_ : (List Int) × (List Int) => ([some ((pS K) a1), some (pV v353), some (pInt s361.1), some (pInt s361.2.1), some ((pL pInt) s_.1), none, none, none, none, none, none, none, none, none, none, none, none, none, none, none, none, none, none, none], [⟨v353, (oL pInt) s_.2, none⟩])) (t_kd (c := fun (b_ : (((Unit × Unit) × (Int × (List Int))) × Unit)) => (decide ((b_.1.2.1) = (5 : Int)))) (t_eqI (x_kd (E := fun (b_ : ((Unit × Unit) × (Int × (List Int)))) => pInt b_.2.1) (x_OF_f (kk := 1) (E1 := (oL pInt)) (E2 := pInt) (s1 := fun (_ : Unit) (_ : Unit) => b365.2.2) (v1 := v353) k_l_next (hr.mono (by decide)) g_l_next F_l_next.kp b_l_next 0 (x_var (p := pV v353) 1) (fun _ => x_int (i := 8)) (fun _ _ => rfl))) (fun _ => x_int (i := 5)))) (fun (b367 : (((Unit × Unit) × (Int × (List Int))) × Unit)) => s_T (T := grd (([(-((10 : Int) ^ (12 : Int).toNat))]).length + x364.length ≤ sizeLine) (grd ((([(-((10 : Int) ^ (12 : Int).toNat))]) ++ x364).length + ([((10 : Int) ^ (12 : Int).toNat)]).length ≤ sizeLine) ((some (((([(-((10 : Int) ^ (12 : Int).toNat))]) ++ x364) ++ ([((10 : Int) ^ (12 : Int).toNat)])) : List Int)).bind fun x485 => some (x485, b367.1.2.2)))) (s_let (i := 4) (pL pInt) sc_law.nd (x_kd (E := fun (b_ : ((((Unit × Unit) × Unit) × Unit) × ((Unit × Unit) × Unit))) => (pL pInt) ((([(-((10 : Int) ^ (12 : Int).toNat))]) ++ x364) ++ ([((10 : Int) ^ (12 : Int).toNat)]))) (x_frz (o_kd (E := fun (b_ : ((((Unit × Unit) × Unit) × Unit) × ((Unit × Unit) × Unit))) => (oL pInt) ((([(-((10 : Int) ^ (12 : Int).toNat))]) ++ x364) ++ ([((10 : Int) ^ (12 : Int).toNat)]))) (x_cat (Ee := pInt) (x_kd (E := fun (b_ : (((Unit × Unit) × Unit) × Unit)) => (pL pInt) (([(-((10 : Int) ^ (12 : Int).toNat))]) ++ x364)) (x_frz (o_kd (E := fun (b_ : (((Unit × Unit) × Unit) × Unit)) => (oL pInt) (([(-((10 : Int) ^ (12 : Int).toNat))]) ++ x364)) (x_cat (Ee := pInt) (x_kd (E := fun (b_ : ((Unit × Unit) × Unit)) => (pL pInt) ([(-((10 : Int) ^ (12 : Int).toNat))])) (x_frz (o_kd (E := fun (b_ : ((Unit × Unit) × Unit)) => (oL pInt) ([(-((10 : Int) ^ (12 : Int).toNat))])) (x_disp pInt (fun _ => [_]) (a_cons (x_kd (E := fun (b_ : (Unit × Unit)) => pInt (-((10 : Int) ^ (12 : Int).toNat))) (x_neg (x_kd (E := fun (b_ : (Unit × Unit)) => pInt ((10 : Int) ^ (12 : Int).toNat)) (x_pow (x_int (i := 10)) (fun _ => x_int (i := 12)) (fun _ _ => by decide))))) (fun _ => a_nil)) (fun _ => rfl) (fun _ => by simp))))) (fun _ => x_var (p := (pL pInt) x364) 4) (fun _ _ => rdF) (fun _ _ => rdF))))) (fun _ => x_kd (E := fun (b_ : ((Unit × Unit) × Unit)) => (pL pInt) ([((10 : Int) ^ (12 : Int).toNat)])) (x_frz (o_kd (E := fun (b_ : ((Unit × Unit) × Unit)) => (oL pInt) ([((10 : Int) ^ (12 : Int).toNat)])) (x_disp pInt (fun _ => [_]) (a_cons (x_kd (E := fun (b_ : (Unit × Unit)) => pInt ((10 : Int) ^ (12 : Int).toNat)) (x_pow (x_int (i := 10)) (fun _ => x_int (i := 12)) (fun _ _ => by decide))) (fun _ => a_nil)) (fun _ => rfl) (fun _ => by simp))))) (fun _ _ => rdF) (fun _ _ => rdF))))) fun (b486 : ((((Unit × Unit) × Unit) × Unit) × ((Unit × Unit) × Unit))) x485 => s_end (x485, b367.1.2.2) rfl ⟨rfl, rfl, rfl, rfl, rfl, trivial⟩ (List.Sublist.refl _))) (fun (b367 : (((Unit × Unit) × (Int × (List Int))) × Unit)) => s_end (x364, b367.1.2.2) rfl ⟨rfl, rfl, rfl, rfl, rfl, trivial⟩ (List.Sublist.refl _)) fun (b367 : (((Unit × Unit) × (Int × (List Int))) × Unit)) s368 => s_T (T := (M_l_next (s368.2) (8 : Int)).bind fun r369 => (atI ([(1 : Int), (1 : Int), (1 : Int), (1 : Int), (1 : Int), (1 : Int), (1 : Int), (333333 : Int)]) (r369.1)).bind fun x370 => (some (x370 : Int)).bind fun x371 => (M_l_stream a1 (1 : Int)).bind fun r373 => (M_l_names r373 (s361.1)).bind fun r375 => (some (r375.1 : List Str)).bind fun x376 => (M_l_stream a1 (2 : Int)).bind fun r378 => (some (r378 : List Int)).bind fun x379 => (M_l_domains x379 x376 (s368.1) (s361.2.1)).bind fun r383 => (M_l_sides (r383.1)).bind fun r384 => (some (r384 : List (Str × List Int))).bind fun x385 => ((if (decide ((0 : Int) < (s361.1))) = true then (M_l_next (r383.2) (8 : Int)).bind fun r390 => some ((decide ((r390.1) = (5 : Int))), r390.2) else some (false, r383.2))).bind fun c391 => (if c391.1 = true then (M_l_next (c391.2) (s361.1)).bind fun r482 => (atI x376 (r482.1)).bind fun x483 => grd (x385.length < sizeLine) (some ((dput x385 x483 ([])), r482.2)) else some (x385, c391.2)).bind fun s393 => (M_l_stream a1 (3 : Int)).bind fun r394 => (some (r394 : List Int)).bind fun x395 => (compM x376 x395 (fun x400 s402 => if true = true then (M_l_next s402 (7 : Int)).bind fun r404 => grd ((sm ((r404.1) - (3 : Int)) || sm x371) = true) (some (some ((((r404.1) - (3 : Int)) * x371), x400), r404.2)) else some (none, s402))).bind fun r405 => (some (r405.1 : List (Int × Str))).bind fun x406 => (M_l_choice (r405.2) x406 (s393.1) (s368.1)).bind fun r410 => (M_l_bounds (r410.2) (r410.1)).bind fun r411 => (some (r411.1 : List (Option Int))).bind fun x412 => (M_l_next (r411.2) (2 : Int)).bind fun r414 => (some ((decide ((r414.1) = (0 : Int))) : Bool)).bind fun x415 => (M_l_heads x406 (s393.1)).bind fun r417 => (compM r417 () (fun x419 s420 => if true = true then grd (x419.length + 1 < scanBound) (some (some (sideL x419), ())) else some (none, ()))).bind fun r422 => (some (r422.1 : List (List Int))).bind fun x423 => (M_l_tails x406 (s393.1)).bind fun r427 => (some (r427 : List (List Int))).bind fun x428 => (some ([] : List (List Int))).bind fun x430 => grd (rg (x423.length : Int) = true) ((forS (rngL 0 (x423.length : Int).toNat) (x430 : (List (List Int))) fun x436 s435 => (atI x423 x436).bind fun x467 => (compM x467 () (fun x469 s474 => (atI x428 x436).bind fun x476 => (atI x412 (0 : Int)).bind fun x477 => (atI x412 (1 : Int)).bind fun x478 => (M_l_leads x469 x476 x477 x478).bind fun r479 => if r479 = true then some (some x469, ()) else some (none, ()))).bind fun r480 => grd (s435.length < sizeLine) (some (s435 ++ [r480.1]))).bind fun s437 => (some (x406 : List (Int × Str))).bind fun x438 => (M_l_next (r414.2) ((s361.1) + (1 : Int))).bind fun r440 => (some (r440.1 : Int)).bind fun x441 => (some (([] : List (Str × List Int)) : List (Str × List Int))).bind fun x443 => grd ((cutL x376 (some x441) none).length + (cutL x376 none (some x441)).length ≤ sizeLine) ((forS ((cutL x376 (some x441) none) ++ (cutL x376 none (some x441))) (x443 : (List (Str × List Int))) fun x449 s448 => (dget (s393.1) x449).bind fun x465 => grd (s448.length < sizeLine) (some (dput s448 x449 x465))).bind fun s450 => grd (rg (2 : Int) = true) ((forL (rngL 0 (2 : Int).toNat) (() : Unit) fun x453 s452 => (M_sum_layers x438 s450).bind fun r457 => (M_l_layers_due r457 x423).bind fun r459 => if (!(r459.1)) = true then inB (some (Tm.rt false)) else (M_l_live x438 s450 x412 x415).bind fun r461 => (M_l_layers_due r461 s437).bind fun r463 => if (!(r463.1)) = true then inB (some (Tm.rt false)) else some (Bo.nx ())).bind (boK (fun s454 => grd (okG (dgL (dgT2 dgInt dgStr)) x438 x406 = true) (((if (decide (x438 = x406)) = true then ((if (deq s450 (s393.1)) = true then grd ((cutL x376 (some x441) none).length + (cutL x376 none (some x441)).length ≤ sizeLine) (grd (okG (dgL dgStr) (s450.map Prod.fst) ((cutL x376 (some x441) none) ++ (cutL x376 none (some x441))) = true) (some ((decide ((s450.map Prod.fst) = ((cutL x376 (some x441) none) ++ (cutL x376 none (some x441))))), ()))) else some (false, ()))).bind fun c455 => some (c455.1, ()) else some (false, ()))).bind fun c456 => some (c456.1))) id))))) (s_let (i := 5) pInt sc_law.nd (x_kd (E := fun (b_ : (((Unit × (Unit × (Unit × (Unit × (Unit × (Unit × (Unit × (Unit × Unit)))))))) × ((Unit × Unit) × (Int × (List Int)))) × Int)) => pInt b_.2) (x_ixL (Ee := pInt) (x_kd (E := fun (b_ : (Unit × (Unit × (Unit × (Unit × (Unit × (Unit × (Unit × (Unit × Unit))))))))) => (pL pInt) ([(1 : Int), (1 : Int), (1 : Int), (1 : Int), (1 : Int), (1 : Int), (1 : Int), (333333 : Int)])) (x_frz (o_kd (E := fun (b_ : (Unit × (Unit × (Unit × (Unit × (Unit × (Unit × (Unit × (Unit × Unit))))))))) => (oL pInt) ([(1 : Int), (1 : Int), (1 : Int), (1 : Int), (1 : Int), (1 : Int), (1 : Int), (333333 : Int)])) (x_disp pInt (fun _ => [_, _, _, _, _, _, _, _]) (a_cons (x_int (i := 1)) (fun _ => a_cons (x_int (i := 1)) (fun _ => a_cons (x_int (i := 1)) (fun _ => a_cons (x_int (i := 1)) (fun _ => a_cons (x_int (i := 1)) (fun _ => a_cons (x_int (i := 1)) (fun _ => a_cons (x_int (i := 1)) (fun _ => a_cons (x_int (i := 333333)) (fun _ => a_nil))))))))) (fun _ => rfl) (fun _ => by simp))))) (fun _ => x_kd (E := fun (b_ : ((Unit × Unit) × (Int × (List Int)))) => pInt b_.2.1) (x_OF_f (kk := 1) (E1 := (oL pInt)) (E2 := pInt) (s1 := fun (_ : Unit) (_ : Unit) => s368.2) (v1 := v353) k_l_next (hr.mono (by decide)) g_l_next F_l_next.kp b_l_next 0 (x_var (p := pV v353) 1) (fun _ => x_int (i := 8)) (fun _ _ => rfl))) (fun _ _ => rdF))) fun (b372 : (((Unit × (Unit × (Unit × (Unit × (Unit × (Unit × (Unit × (Unit × Unit)))))))) × ((Unit × Unit) × (Int × (List Int)))) × Int)) x371 => s_T (T := (M_l_stream a1 (1 : Int)).bind fun r373 => (M_l_names r373 (s361.1)).bind fun r375 => (some (r375.1 : List Str)).bind fun x376 => (M_l_stream a1 (2 : Int)).bind fun r378 => (some (r378 : List Int)).bind fun x379 => (M_l_domains x379 x376 (s368.1) (s361.2.1)).bind fun r383 => (M_l_sides (r383.1)).bind fun r384 => (some (r384 : List (Str × List Int))).bind fun x385 => ((if (decide ((0 : Int) < (s361.1))) = true then (M_l_next (r383.2) (8 : Int)).bind fun r390 => some ((decide ((r390.1) = (5 : Int))), r390.2) else some (false, r383.2))).bind fun c391 => (if c391.1 = true then (M_l_next (c391.2) (s361.1)).bind fun r482 => (atI x376 (r482.1)).bind fun x483 => grd (x385.length < sizeLine) (some ((dput x385 x483 ([])), r482.2)) else some (x385, c391.2)).bind fun s393 => (M_l_stream a1 (3 : Int)).bind fun r394 => (some (r394 : List Int)).bind fun x395 => (compM x376 x395 (fun x400 s402 => if true = true then (M_l_next s402 (7 : Int)).bind fun r404 => grd ((sm ((r404.1) - (3 : Int)) || sm x371) = true) (some (some ((((r404.1) - (3 : Int)) * x371), x400), r404.2)) else some (none, s402))).bind fun r405 => (some (r405.1 : List (Int × Str))).bind fun x406 => (M_l_choice (r405.2) x406 (s393.1) (s368.1)).bind fun r410 => (M_l_bounds (r410.2) (r410.1)).bind fun r411 => (some (r411.1 : List (Option Int))).bind fun x412 => (M_l_next (r411.2) (2 : Int)).bind fun r414 => (some ((decide ((r414.1) = (0 : Int))) : Bool)).bind fun x415 => (M_l_heads x406 (s393.1)).bind fun r417 => (compM r417 () (fun x419 s420 => if true = true then grd (x419.length + 1 < scanBound) (some (some (sideL x419), ())) else some (none, ()))).bind fun r422 => (some (r422.1 : List (List Int))).bind fun x423 => (M_l_tails x406 (s393.1)).bind fun r427 => (some (r427 : List (List Int))).bind fun x428 => (some ([] : List (List Int))).bind fun x430 => grd (rg (x423.length : Int) = true) ((forS (rngL 0 (x423.length : Int).toNat) (x430 : (List (List Int))) fun x436 s435 => (atI x423 x436).bind fun x467 => (compM x467 () (fun x469 s474 => (atI x428 x436).bind fun x476 => (atI x412 (0 : Int)).bind fun x477 => (atI x412 (1 : Int)).bind fun x478 => (M_l_leads x469 x476 x477 x478).bind fun r479 => if r479 = true then some (some x469, ()) else some (none, ()))).bind fun r480 => grd (s435.length < sizeLine) (some (s435 ++ [r480.1]))).bind fun s437 => (some (x406 : List (Int × Str))).bind fun x438 => (M_l_next (r414.2) ((s361.1) + (1 : Int))).bind fun r440 => (some (r440.1 : Int)).bind fun x441 => (some (([] : List (Str × List Int)) : List (Str × List Int))).bind fun x443 => grd ((cutL x376 (some x441) none).length + (cutL x376 none (some x441)).length ≤ sizeLine) ((forS ((cutL x376 (some x441) none) ++ (cutL x376 none (some x441))) (x443 : (List (Str × List Int))) fun x449 s448 => (dget (s393.1) x449).bind fun x465 => grd (s448.length < sizeLine) (some (dput s448 x449 x465))).bind fun s450 => grd (rg (2 : Int) = true) ((forL (rngL 0 (2 : Int).toNat) (() : Unit) fun x453 s452 => (M_sum_layers x438 s450).bind fun r457 => (M_l_layers_due r457 x423).bind fun r459 => if (!(r459.1)) = true then inB (some (Tm.rt false)) else (M_l_live x438 s450 x412 x415).bind fun r461 => (M_l_layers_due r461 s437).bind fun r463 => if (!(r463.1)) = true then inB (some (Tm.rt false)) else some (Bo.nx ())).bind (boK (fun s454 => grd (okG (dgL (dgT2 dgInt dgStr)) x438 x406 = true) (((if (decide (x438 = x406)) = true then ((if (deq s450 (s393.1)) = true then grd ((cutL x376 (some x441) none).length + (cutL x376 none (some x441)).length ≤ sizeLine) (grd (okG (dgL dgStr) (s450.map Prod.fst) ((cutL x376 (some x441) none) ++ (cutL x376 none (some x441))) = true) (some ((decide ((s450.map Prod.fst) = ((cutL x376 (some x441) none) ++ (cutL x376 none (some x441))))), ()))) else some (false, ()))).bind fun c455 => some (c455.1, ()) else some (false, ()))).bind fun c456 => some (c456.1))) id))))) (s_let (i := 6) (pL pStr) sc_law.nd (x_kd (E := fun (b_ : ((((Unit × Unit) × (List Int)) × Unit) × ((List Str) × (List Int)))) => (pL pStr) b_.2.1) (x_frz (o_kd (E := fun (b_ : ((((Unit × Unit) × (List Int)) × Unit) × ((List Str) × (List Int)))) => (oL pStr) b_.2.1) (x_TF_o (kk := 2) (E1 := (oL pInt)) (E2 := pInt) k_l_names (hr.mono (by decide)) g_l_names F_l_names.kp b_l_names (o_kd (E := fun (b_ : ((Unit × Unit) × (List Int))) => (oL pInt) b_.2) (x_FF_o (kk := 1) (E1 := (pS K)) (E2 := pInt) k_l_stream (hr.mono (by decide)) g_l_stream F_l_stream.kp b_l_stream (x_var (p := (pS K) a1) 0) (fun _ => x_int (i := 1)))) (fun _ vt_  => x_var (p := pInt s361.1) 2))))) fun (b377 : ((((Unit × Unit) × (List Int)) × Unit) × ((List Str) × (List Int)))) x376 => s_T (T := (M_l_stream a1 (2 : Int)).bind fun r378 => (some (r378 : List Int)).bind fun x379 => (M_l_domains x379 x376 (s368.1) (s361.2.1)).bind fun r383 => (M_l_sides (r383.1)).bind fun r384 => (some (r384 : List (Str × List Int))).bind fun x385 => ((if (decide ((0 : Int) < (s361.1))) = true then (M_l_next (r383.2) (8 : Int)).bind fun r390 => some ((decide ((r390.1) = (5 : Int))), r390.2) else some (false, r383.2))).bind fun c391 => (if c391.1 = true then (M_l_next (c391.2) (s361.1)).bind fun r482 => (atI x376 (r482.1)).bind fun x483 => grd (x385.length < sizeLine) (some ((dput x385 x483 ([])), r482.2)) else some (x385, c391.2)).bind fun s393 => (M_l_stream a1 (3 : Int)).bind fun r394 => (some (r394 : List Int)).bind fun x395 => (compM x376 x395 (fun x400 s402 => if true = true then (M_l_next s402 (7 : Int)).bind fun r404 => grd ((sm ((r404.1) - (3 : Int)) || sm x371) = true) (some (some ((((r404.1) - (3 : Int)) * x371), x400), r404.2)) else some (none, s402))).bind fun r405 => (some (r405.1 : List (Int × Str))).bind fun x406 => (M_l_choice (r405.2) x406 (s393.1) (s368.1)).bind fun r410 => (M_l_bounds (r410.2) (r410.1)).bind fun r411 => (some (r411.1 : List (Option Int))).bind fun x412 => (M_l_next (r411.2) (2 : Int)).bind fun r414 => (some ((decide ((r414.1) = (0 : Int))) : Bool)).bind fun x415 => (M_l_heads x406 (s393.1)).bind fun r417 => (compM r417 () (fun x419 s420 => if true = true then grd (x419.length + 1 < scanBound) (some (some (sideL x419), ())) else some (none, ()))).bind fun r422 => (some (r422.1 : List (List Int))).bind fun x423 => (M_l_tails x406 (s393.1)).bind fun r427 => (some (r427 : List (List Int))).bind fun x428 => (some ([] : List (List Int))).bind fun x430 => grd (rg (x423.length : Int) = true) ((forS (rngL 0 (x423.length : Int).toNat) (x430 : (List (List Int))) fun x436 s435 => (atI x423 x436).bind fun x467 => (compM x467 () (fun x469 s474 => (atI x428 x436).bind fun x476 => (atI x412 (0 : Int)).bind fun x477 => (atI x412 (1 : Int)).bind fun x478 => (M_l_leads x469 x476 x477 x478).bind fun r479 => if r479 = true then some (some x469, ()) else some (none, ()))).bind fun r480 => grd (s435.length < sizeLine) (some (s435 ++ [r480.1]))).bind fun s437 => (some (x406 : List (Int × Str))).bind fun x438 => (M_l_next (r414.2) ((s361.1) + (1 : Int))).bind fun r440 => (some (r440.1 : Int)).bind fun x441 => (some (([] : List (Str × List Int)) : List (Str × List Int))).bind fun x443 => grd ((cutL x376 (some x441) none).length + (cutL x376 none (some x441)).length ≤ sizeLine) ((forS ((cutL x376 (some x441) none) ++ (cutL x376 none (some x441))) (x443 : (List (Str × List Int))) fun x449 s448 => (dget (s393.1) x449).bind fun x465 => grd (s448.length < sizeLine) (some (dput s448 x449 x465))).bind fun s450 => grd (rg (2 : Int) = true) ((forL (rngL 0 (2 : Int).toNat) (() : Unit) fun x453 s452 => (M_sum_layers x438 s450).bind fun r457 => (M_l_layers_due r457 x423).bind fun r459 => if (!(r459.1)) = true then inB (some (Tm.rt false)) else (M_l_live x438 s450 x412 x415).bind fun r461 => (M_l_layers_due r461 s437).bind fun r463 => if (!(r463.1)) = true then inB (some (Tm.rt false)) else some (Bo.nx ())).bind (boK (fun s454 => grd (okG (dgL (dgT2 dgInt dgStr)) x438 x406 = true) (((if (decide (x438 = x406)) = true then ((if (deq s450 (s393.1)) = true then grd ((cutL x376 (some x441) none).length + (cutL x376 none (some x441)).length ≤ sizeLine) (grd (okG (dgL dgStr) (s450.map Prod.fst) ((cutL x376 (some x441) none) ++ (cutL x376 none (some x441))) = true) (some ((decide ((s450.map Prod.fst) = ((cutL x376 (some x441) none) ++ (cutL x376 none (some x441))))), ()))) else some (false, ()))).bind fun c455 => some (c455.1, ()) else some (false, ()))).bind fun c456 => some (c456.1))) id))))) (s_letO (i := 7) (oL pInt) sc_law.nd (o_kd (E := fun (b_ : ((Unit × Unit) × (List Int))) => (oL pInt) b_.2) (x_FF_o (kk := 1) (E1 := (pS K)) (E2 := pInt) k_l_stream (hr.mono (by decide)) g_l_stream F_l_stream.kp b_l_stream (x_var (p := (pS K) a1) 0) (fun _ => x_int (i := 2)))) fun (b380 : ((Unit × Unit) × (List Int))) x379 v382 => s_T (T := (M_l_domains x379 x376 (s368.1) (s361.2.1)).bind fun r383 => (M_l_sides (r383.1)).bind fun r384 => (some (r384 : List (Str × List Int))).bind fun x385 => ((if (decide ((0 : Int) < (s361.1))) = true then (M_l_next (r383.2) (8 : Int)).bind fun r390 => some ((decide ((r390.1) = (5 : Int))), r390.2) else some (false, r383.2))).bind fun c391 => (if c391.1 = true then (M_l_next (c391.2) (s361.1)).bind fun r482 => (atI x376 (r482.1)).bind fun x483 => grd (x385.length < sizeLine) (some ((dput x385 x483 ([])), r482.2)) else some (x385, c391.2)).bind fun s393 => (M_l_stream a1 (3 : Int)).bind fun r394 => (some (r394 : List Int)).bind fun x395 => (compM x376 x395 (fun x400 s402 => if true = true then (M_l_next s402 (7 : Int)).bind fun r404 => grd ((sm ((r404.1) - (3 : Int)) || sm x371) = true) (some (some ((((r404.1) - (3 : Int)) * x371), x400), r404.2)) else some (none, s402))).bind fun r405 => (some (r405.1 : List (Int × Str))).bind fun x406 => (M_l_choice (r405.2) x406 (s393.1) (s368.1)).bind fun r410 => (M_l_bounds (r410.2) (r410.1)).bind fun r411 => (some (r411.1 : List (Option Int))).bind fun x412 => (M_l_next (r411.2) (2 : Int)).bind fun r414 => (some ((decide ((r414.1) = (0 : Int))) : Bool)).bind fun x415 => (M_l_heads x406 (s393.1)).bind fun r417 => (compM r417 () (fun x419 s420 => if true = true then grd (x419.length + 1 < scanBound) (some (some (sideL x419), ())) else some (none, ()))).bind fun r422 => (some (r422.1 : List (List Int))).bind fun x423 => (M_l_tails x406 (s393.1)).bind fun r427 => (some (r427 : List (List Int))).bind fun x428 => (some ([] : List (List Int))).bind fun x430 => grd (rg (x423.length : Int) = true) ((forS (rngL 0 (x423.length : Int).toNat) (x430 : (List (List Int))) fun x436 s435 => (atI x423 x436).bind fun x467 => (compM x467 () (fun x469 s474 => (atI x428 x436).bind fun x476 => (atI x412 (0 : Int)).bind fun x477 => (atI x412 (1 : Int)).bind fun x478 => (M_l_leads x469 x476 x477 x478).bind fun r479 => if r479 = true then some (some x469, ()) else some (none, ()))).bind fun r480 => grd (s435.length < sizeLine) (some (s435 ++ [r480.1]))).bind fun s437 => (some (x406 : List (Int × Str))).bind fun x438 => (M_l_next (r414.2) ((s361.1) + (1 : Int))).bind fun r440 => (some (r440.1 : Int)).bind fun x441 => (some (([] : List (Str × List Int)) : List (Str × List Int))).bind fun x443 => grd ((cutL x376 (some x441) none).length + (cutL x376 none (some x441)).length ≤ sizeLine) ((forS ((cutL x376 (some x441) none) ++ (cutL x376 none (some x441))) (x443 : (List (Str × List Int))) fun x449 s448 => (dget (s393.1) x449).bind fun x465 => grd (s448.length < sizeLine) (some (dput s448 x449 x465))).bind fun s450 => grd (rg (2 : Int) = true) ((forL (rngL 0 (2 : Int).toNat) (() : Unit) fun x453 s452 => (M_sum_layers x438 s450).bind fun r457 => (M_l_layers_due r457 x423).bind fun r459 => if (!(r459.1)) = true then inB (some (Tm.rt false)) else (M_l_live x438 s450 x412 x415).bind fun r461 => (M_l_layers_due r461 s437).bind fun r463 => if (!(r463.1)) = true then inB (some (Tm.rt false)) else some (Bo.nx ())).bind (boK (fun s454 => grd (okG (dgL (dgT2 dgInt dgStr)) x438 x406 = true) (((if (decide (x438 = x406)) = true then ((if (deq s450 (s393.1)) = true then grd ((cutL x376 (some x441) none).length + (cutL x376 none (some x441)).length ≤ sizeLine) (grd (okG (dgL dgStr) (s450.map Prod.fst) ((cutL x376 (some x441) none) ++ (cutL x376 none (some x441))) = true) (some ((decide ((s450.map Prod.fst) = ((cutL x376 (some x441) none) ++ (cutL x376 none (some x441))))), ()))) else some (false, ()))).bind fun c455 => some (c455.1, ()) else some (false, ()))).bind fun c456 => some (c456.1))) id))))) (s_letO (i := 8) (oM (κ := Str) (pL pInt)) sc_law.nd (o_kd (E := fun (b_ : (((Unit × (Unit × (Unit × Unit))) × ((List (Str × List Int)) × (List Int))) × (List (Str × List Int)))) => (oM (κ := Str) (pL pInt)) b_.2) (x_F_o (kk := 1) (E1 := (pL (pT2 pStr (pL pInt)))) k_l_sides (hr.mono (by decide)) g_l_sides F_l_sides.kp b_l_sides (x_kd (E := fun (b_ : ((Unit × (Unit × (Unit × Unit))) × ((List (Str × List Int)) × (List Int)))) => (pL (pT2 pStr (pL pInt))) b_.2.1) (x_frz (o_kd (E := fun (b_ : ((Unit × (Unit × (Unit × Unit))) × ((List (Str × List Int)) × (List Int)))) => (oL (pT2 pStr (pL pInt))) b_.2.1) (x_OFFF_o (kk := 2) (E1 := (oL pInt)) (E2 := (pL pStr)) (E3 := (pL pInt)) (E4 := pInt) (s1 := fun (_ : Unit) (_ : Unit) (_ : Unit) (_ : Unit) => x379) (v1 := v382) k_l_domains (hr.mono (by decide)) g_l_domains F_l_domains.kp b_l_domains 0 (x_var (p := pV v382) 7) (fun _ => x_var (p := (pL pStr) x376) 6) (fun _ _ => x_var (p := (pL pInt) s368.1) 4) (fun _ _ _ => x_var (p := pInt s361.2.1) 3) (fun _ _ _ _ => rfl))))))) fun (b386 : (((Unit × (Unit × (Unit × Unit))) × ((List (Str × List Int)) × (List Int))) × (List (Str × List Int)))) x385 v388 => s_T (T := ((if (decide ((0 : Int) < (s361.1))) = true then (M_l_next (b386.1.2.2) (8 : Int)).bind fun r390 => some ((decide ((r390.1) = (5 : Int))), r390.2) else some (false, b386.1.2.2))).bind fun c391 => (if c391.1 = true then (M_l_next (c391.2) (s361.1)).bind fun r482 => (atI x376 (r482.1)).bind fun x483 => grd (x385.length < sizeLine) (some ((dput x385 x483 ([])), r482.2)) else some (x385, c391.2)).bind fun s393 => (M_l_stream a1 (3 : Int)).bind fun r394 => (some (r394 : List Int)).bind fun x395 => (compM x376 x395 (fun x400 s402 => if true = true then (M_l_next s402 (7 : Int)).bind fun r404 => grd ((sm ((r404.1) - (3 : Int)) || sm x371) = true) (some (some ((((r404.1) - (3 : Int)) * x371), x400), r404.2)) else some (none, s402))).bind fun r405 => (some (r405.1 : List (Int × Str))).bind fun x406 => (M_l_choice (r405.2) x406 (s393.1) (s368.1)).bind fun r410 => (M_l_bounds (r410.2) (r410.1)).bind fun r411 => (some (r411.1 : List (Option Int))).bind fun x412 => (M_l_next (r411.2) (2 : Int)).bind fun r414 => (some ((decide ((r414.1) = (0 : Int))) : Bool)).bind fun x415 => (M_l_heads x406 (s393.1)).bind fun r417 => (compM r417 () (fun x419 s420 => if true = true then grd (x419.length + 1 < scanBound) (some (some (sideL x419), ())) else some (none, ()))).bind fun r422 => (some (r422.1 : List (List Int))).bind fun x423 => (M_l_tails x406 (s393.1)).bind fun r427 => (some (r427 : List (List Int))).bind fun x428 => (some ([] : List (List Int))).bind fun x430 => grd (rg (x423.length : Int) = true) ((forS (rngL 0 (x423.length : Int).toNat) (x430 : (List (List Int))) fun x436 s435 => (atI x423 x436).bind fun x467 => (compM x467 () (fun x469 s474 => (atI x428 x436).bind fun x476 => (atI x412 (0 : Int)).bind fun x477 => (atI x412 (1 : Int)).bind fun x478 => (M_l_leads x469 x476 x477 x478).bind fun r479 => if r479 = true then some (some x469, ()) else some (none, ()))).bind fun r480 => grd (s435.length < sizeLine) (some (s435 ++ [r480.1]))).bind fun s437 => (some (x406 : List (Int × Str))).bind fun x438 => (M_l_next (r414.2) ((s361.1) + (1 : Int))).bind fun r440 => (some (r440.1 : Int)).bind fun x441 => (some (([] : List (Str × List Int)) : List (Str × List Int))).bind fun x443 => grd ((cutL x376 (some x441) none).length + (cutL x376 none (some x441)).length ≤ sizeLine) ((forS ((cutL x376 (some x441) none) ++ (cutL x376 none (some x441))) (x443 : (List (Str × List Int))) fun x449 s448 => (dget (s393.1) x449).bind fun x465 => grd (s448.length < sizeLine) (some (dput s448 x449 x465))).bind fun s450 => grd (rg (2 : Int) = true) ((forL (rngL 0 (2 : Int).toNat) (() : Unit) fun x453 s452 => (M_sum_layers x438 s450).bind fun r457 => (M_l_layers_due r457 x423).bind fun r459 => if (!(r459.1)) = true then inB (some (Tm.rt false)) else (M_l_live x438 s450 x412 x415).bind fun r461 => (M_l_layers_due r461 s437).bind fun r463 => if (!(r463.1)) = true then inB (some (Tm.rt false)) else some (Bo.nx ())).bind (boK (fun s454 => grd (okG (dgL (dgT2 dgInt dgStr)) x438 x406 = true) (((if (decide (x438 = x406)) = true then ((if (deq s450 (s393.1)) = true then grd ((cutL x376 (some x441) none).length + (cutL x376 none (some x441)).length ≤ sizeLine) (grd (okG (dgL dgStr) (s450.map Prod.fst) ((cutL x376 (some x441) none) ++ (cutL x376 none (some x441))) = true) (some ((decide ((s450.map Prod.fst) = ((cutL x376 (some x441) none) ++ (cutL x376 none (some x441))))), ()))) else some (false, ()))).bind fun c455 => some (c455.1, ()) else some (false, ()))).bind fun c456 => some (c456.1))) id))))) (s_ifN (C := fun s_ : (List (Str × List Int)) × (List Int) => ([some ((pS K) a1), some (pV v353), some (pInt s361.1), some (pInt s361.2.1), some ((pL pInt) s368.1), some (pInt x371), some ((pL pStr) x376), some (pV v382), some (pV v388), none, none, none, none, none, none, none, none, none, none, none, none, none, none, none], [⟨v388, (oM (κ := Str) (pL pInt)) s_.1, none⟩, ⟨v382, (oL pInt) s_.2, none⟩, ⟨v353, (oL pInt) b372.1.2.2.2, none⟩])) (t_kd (c := fun (b_ : ((Unit × Unit) × (Bool × (List Int)))) => b_.2.1) (PW.pt (w_andM (ΔS := fun (b_ : (Unit × Unit)) (s_ : (List Int)) => [⟨v388, (oM (κ := Str) (pL pInt)) x385, none⟩, ⟨v382, (oL pInt) s_, none⟩, ⟨v353, (oL pInt) b372.1.2.2.2, none⟩]) (s1 := fun (b_ : (Unit × Unit)) => b386.1.2.2) (s2 := fun (b_ : (Unit × Unit)) (c_ : (((Unit × Unit) × (Int × (List Int))) × Unit)) => c_.1.2.2) (t_kd (c := fun (b_ : (Unit × Unit)) => (decide ((0 : Int) < (s361.1)))) (t_gt (x_var (p := pInt s361.1) 2) (fun _ => x_int (i := 0)))) (fun _ => w_and1 (t_kd (c := fun (b_ : (((Unit × Unit) × (Int × (List Int))) × Unit)) => (decide ((b_.1.2.1) = (5 : Int)))) (t_eqI (x_kd (E := fun (b_ : ((Unit × Unit) × (Int × (List Int)))) => pInt b_.2.1) (x_OF_f (kk := 1) (E1 := (oL pInt)) (E2 := pInt) (s1 := fun (_ : Unit) (_ : Unit) => b386.1.2.2) (v1 := v382) k_l_next (hr.mono (by decide)) g_l_next F_l_next.kp b_l_next 1 (x_var (p := pV v382) 7) (fun _ => x_int (i := 8)) (fun _ _ => rfl))) (fun _ => x_int (i := 5))))) (fun _ => rfl) (fun _ _ => rfl)))) (fun (b392 : ((Unit × Unit) × (Bool × (List Int)))) => s_T (T := (M_l_next (b392.2.2) (s361.1)).bind fun r482 => (atI x376 (r482.1)).bind fun x483 => grd (x385.length < sizeLine) (some ((dput x385 x483 ([])), r482.2))) (s_dput (κ := Str) (Ee := (pL pInt)) 0 hr.units (x_kd (E := fun (b_ : Unit) => (pL pInt) ([])) (x_frz (o_kd (E := fun (b_ : Unit) => (oL pInt) ([])) (x_nil pInt)))) (fun _ => x_var (p := pV v388) 8) (fun _ _ => x_kd (E := fun (b_ : ((Unit × ((Unit × Unit) × (Int × (List Int)))) × Str)) => pStr b_.2) (x_ixL (Ee := pStr) (x_var (p := (pL pStr) x376) 6) (fun _ => x_kd (E := fun (b_ : ((Unit × Unit) × (Int × (List Int)))) => pInt b_.2.1) (x_OF_f (kk := 1) (E1 := (oL pInt)) (E2 := pInt) (s1 := fun (_ : Unit) (_ : Unit) => b392.2.2) (v1 := v382) k_l_next (hr.mono (by decide)) g_l_next F_l_next.kp b_l_next 1 (x_var (p := pV v382) 7) (fun _ => x_var (p := pInt s361.1) 2) (fun _ _ => rfl))) (fun _ _ => rdF))) (fun _ _ _ => rfl) fun (b484 : ((Unit × Unit) × ((Unit × ((Unit × Unit) × (Int × (List Int)))) × Str))) => s_end ((dput x385 b484.2.2 ([])), b484.2.1.2.2.2) rfl ⟨rfl, rfl, rfl, rfl, rfl, rfl, rfl, rfl, rfl, trivial⟩ (List.Sublist.refl _))) (fun (b392 : ((Unit × Unit) × (Bool × (List Int)))) => s_end (x385, b392.2.2) rfl ⟨rfl, rfl, rfl, rfl, rfl, rfl, rfl, rfl, rfl, trivial⟩ (List.Sublist.refl _)) fun (b392 : ((Unit × Unit) × (Bool × (List Int)))) s393 => s_frz (i := 8) (c := ⟨v388, (oM (κ := Str) (pL pInt)) s393.1, none⟩) 0 (s_T (T := (M_l_stream a1 (3 : Int)).bind fun r394 => (some (r394 : List Int)).bind fun x395 => (compM x376 x395 (fun x400 s402 => if true = true then (M_l_next s402 (7 : Int)).bind fun r404 => grd ((sm ((r404.1) - (3 : Int)) || sm x371) = true) (some (some ((((r404.1) - (3 : Int)) * x371), x400), r404.2)) else some (none, s402))).bind fun r405 => (some (r405.1 : List (Int × Str))).bind fun x406 => (M_l_choice (r405.2) x406 (s393.1) (s368.1)).bind fun r410 => (M_l_bounds (r410.2) (r410.1)).bind fun r411 => (some (r411.1 : List (Option Int))).bind fun x412 => (M_l_next (r411.2) (2 : Int)).bind fun r414 => (some ((decide ((r414.1) = (0 : Int))) : Bool)).bind fun x415 => (M_l_heads x406 (s393.1)).bind fun r417 => (compM r417 () (fun x419 s420 => if true = true then grd (x419.length + 1 < scanBound) (some (some (sideL x419), ())) else some (none, ()))).bind fun r422 => (some (r422.1 : List (List Int))).bind fun x423 => (M_l_tails x406 (s393.1)).bind fun r427 => (some (r427 : List (List Int))).bind fun x428 => (some ([] : List (List Int))).bind fun x430 => grd (rg (x423.length : Int) = true) ((forS (rngL 0 (x423.length : Int).toNat) (x430 : (List (List Int))) fun x436 s435 => (atI x423 x436).bind fun x467 => (compM x467 () (fun x469 s474 => (atI x428 x436).bind fun x476 => (atI x412 (0 : Int)).bind fun x477 => (atI x412 (1 : Int)).bind fun x478 => (M_l_leads x469 x476 x477 x478).bind fun r479 => if r479 = true then some (some x469, ()) else some (none, ()))).bind fun r480 => grd (s435.length < sizeLine) (some (s435 ++ [r480.1]))).bind fun s437 => (some (x406 : List (Int × Str))).bind fun x438 => (M_l_next (r414.2) ((s361.1) + (1 : Int))).bind fun r440 => (some (r440.1 : Int)).bind fun x441 => (some (([] : List (Str × List Int)) : List (Str × List Int))).bind fun x443 => grd ((cutL x376 (some x441) none).length + (cutL x376 none (some x441)).length ≤ sizeLine) ((forS ((cutL x376 (some x441) none) ++ (cutL x376 none (some x441))) (x443 : (List (Str × List Int))) fun x449 s448 => (dget (s393.1) x449).bind fun x465 => grd (s448.length < sizeLine) (some (dput s448 x449 x465))).bind fun s450 => grd (rg (2 : Int) = true) ((forL (rngL 0 (2 : Int).toNat) (() : Unit) fun x453 s452 => (M_sum_layers x438 s450).bind fun r457 => (M_l_layers_due r457 x423).bind fun r459 => if (!(r459.1)) = true then inB (some (Tm.rt false)) else (M_l_live x438 s450 x412 x415).bind fun r461 => (M_l_layers_due r461 s437).bind fun r463 => if (!(r463.1)) = true then inB (some (Tm.rt false)) else some (Bo.nx ())).bind (boK (fun s454 => grd (okG (dgL (dgT2 dgInt dgStr)) x438 x406 = true) (((if (decide (x438 = x406)) = true then ((if (deq s450 (s393.1)) = true then grd ((cutL x376 (some x441) none).length + (cutL x376 none (some x441)).length ≤ sizeLine) (grd (okG (dgL dgStr) (s450.map Prod.fst) ((cutL x376 (some x441) none) ++ (cutL x376 none (some x441))) = true) (some ((decide ((s450.map Prod.fst) = ((cutL x376 (some x441) none) ++ (cutL x376 none (some x441))))), ()))) else some (false, ()))).bind fun c455 => some (c455.1, ()) else some (false, ()))).bind fun c456 => some (c456.1))) id))))) (s_letO (i := 9) (oL pInt) sc_law.nd (o_kd (E := fun (b_ : ((Unit × Unit) × (List Int))) => (oL pInt) b_.2) (x_FF_o (kk := 1) (E1 := (pS K)) (E2 := pInt) k_l_stream (hr.mono (by decide)) g_l_stream F_l_stream.kp b_l_stream (x_var (p := (pS K) a1) 0) (fun _ => x_int (i := 3)))) fun (b396 : ((Unit × Unit) × (List Int))) x395 v398 => s_T (T := (compM x376 x395 (fun x400 s402 => if true = true then (M_l_next s402 (7 : Int)).bind fun r404 => grd ((sm ((r404.1) - (3 : Int)) || sm x371) = true) (some (some ((((r404.1) - (3 : Int)) * x371), x400), r404.2)) else some (none, s402))).bind fun r405 => (some (r405.1 : List (Int × Str))).bind fun x406 => (M_l_choice (r405.2) x406 (s393.1) (s368.1)).bind fun r410 => (M_l_bounds (r410.2) (r410.1)).bind fun r411 => (some (r411.1 : List (Option Int))).bind fun x412 => (M_l_next (r411.2) (2 : Int)).bind fun r414 => (some ((decide ((r414.1) = (0 : Int))) : Bool)).bind fun x415 => (M_l_heads x406 (s393.1)).bind fun r417 => (compM r417 () (fun x419 s420 => if true = true then grd (x419.length + 1 < scanBound) (some (some (sideL x419), ())) else some (none, ()))).bind fun r422 => (some (r422.1 : List (List Int))).bind fun x423 => (M_l_tails x406 (s393.1)).bind fun r427 => (some (r427 : List (List Int))).bind fun x428 => (some ([] : List (List Int))).bind fun x430 => grd (rg (x423.length : Int) = true) ((forS (rngL 0 (x423.length : Int).toNat) (x430 : (List (List Int))) fun x436 s435 => (atI x423 x436).bind fun x467 => (compM x467 () (fun x469 s474 => (atI x428 x436).bind fun x476 => (atI x412 (0 : Int)).bind fun x477 => (atI x412 (1 : Int)).bind fun x478 => (M_l_leads x469 x476 x477 x478).bind fun r479 => if r479 = true then some (some x469, ()) else some (none, ()))).bind fun r480 => grd (s435.length < sizeLine) (some (s435 ++ [r480.1]))).bind fun s437 => (some (x406 : List (Int × Str))).bind fun x438 => (M_l_next (r414.2) ((s361.1) + (1 : Int))).bind fun r440 => (some (r440.1 : Int)).bind fun x441 => (some (([] : List (Str × List Int)) : List (Str × List Int))).bind fun x443 => grd ((cutL x376 (some x441) none).length + (cutL x376 none (some x441)).length ≤ sizeLine) ((forS ((cutL x376 (some x441) none) ++ (cutL x376 none (some x441))) (x443 : (List (Str × List Int))) fun x449 s448 => (dget (s393.1) x449).bind fun x465 => grd (s448.length < sizeLine) (some (dput s448 x449 x465))).bind fun s450 => grd (rg (2 : Int) = true) ((forL (rngL 0 (2 : Int).toNat) (() : Unit) fun x453 s452 => (M_sum_layers x438 s450).bind fun r457 => (M_l_layers_due r457 x423).bind fun r459 => if (!(r459.1)) = true then inB (some (Tm.rt false)) else (M_l_live x438 s450 x412 x415).bind fun r461 => (M_l_layers_due r461 s437).bind fun r463 => if (!(r463.1)) = true then inB (some (Tm.rt false)) else some (Bo.nx ())).bind (boK (fun s454 => grd (okG (dgL (dgT2 dgInt dgStr)) x438 x406 = true) (((if (decide (x438 = x406)) = true then ((if (deq s450 (s393.1)) = true then grd ((cutL x376 (some x441) none).length + (cutL x376 none (some x441)).length ≤ sizeLine) (grd (okG (dgL dgStr) (s450.map Prod.fst) ((cutL x376 (some x441) none) ++ (cutL x376 none (some x441))) = true) (some ((decide ((s450.map Prod.fst) = ((cutL x376 (some x441) none) ++ (cutL x376 none (some x441))))), ()))) else some (false, ()))).bind fun c455 => some (c455.1, ()) else some (false, ()))).bind fun c456 => some (c456.1))) id))))) (s_letOA (i := 10) (oL (pT2 pInt pStr)) (a_lc (i := 10) (own := [("_law_name", 20)]) (C := fun (b_ : Unit) (s_ : (List Int)) => [⟨v398, (oL pInt) s_, none⟩, ⟨v382, (oL pInt) s393.2, none⟩, ⟨v353, (oL pInt) b372.1.2.2.2, none⟩]) (s0 := fun (b_ : Unit) => x395) (s2 := fun (b_ : Unit) (x_ : Str) (s_ : (List Int)) (c_ : Unit) => s_) (s3 := fun (b_ : Unit) (x_ : Str) (s_ : (List Int)) (c_ : Unit) (d_ : (((((Unit × Unit) × (Int × (List Int))) × Unit) × Unit) × (Unit × Unit))) => d_.1.1.1.2.2) (Ex := pStr) (Ee := (pT2 pInt pStr)) (δ := (Int × Str)) (y := fun (b_ : Unit) (x_ : Str) (s_ : (List Int)) (c_ : Unit) (d_ : (((((Unit × Unit) × (Int × (List Int))) × Unit) × Unit) × (Unit × Unit))) => ((((d_.1.1.1.2.1) - (3 : Int)) * x371), x_)) (T2 := fun (b_ : Unit) (x_ : Str) (s_ : (List Int)) (c_ : Unit) => (M_l_next s_ (7 : Int)).bind fun r404 => grd ((sm ((r404.1) - (3 : Int)) || sm x371) = true) (some (some ((((r404.1) - (3 : Int)) * x371), x_), r404.2))) (c := fun (b_ : Unit) (x_ : Str) (s_ : (List Int)) (c_ : Unit) => true) (f := fun (b_ : Unit) (x_ : Str) (s_ : (List Int)) => if true = true then (M_l_next s_ (7 : Int)).bind fun r404 => grd ((sm ((r404.1) - (3 : Int)) || sm x371) = true) (some (some ((((r404.1) - (3 : Int)) * x371), x_), r404.2)) else some (none, s_)) sc_law.nd (i_list (x_var (p := (pL pStr) x376) 6)) (blkOk_by (own := [("_law_name", 20)]) (N := ["_law_script", "_law_stream_here", "_law_size", "_law_most", "_law_pool_here", "_law_scale", "_law_names_here", "_law_second", "_law_sides_here", "_law_third", "_law_terms", "_law_bounds_here", "_law_left_out", "_law_layers", "_law_tails_here", "_law_live_here", "_law_k", "_law_handed_terms", "_law_shift", "_law_handed", "_law_name", "_law_turn", "_law_head", "_law_total"]) (sc := defScope (top 26)) (by decide +kernel)) (fun _ _ _ _ _ => pg_name (i := 20) sc_law.nd rfl (by first | exact .inl rfl | exact .inr rfl)) (tw_name 20) (fun _ => rfl) (by exact fun q403 _ _ _ _ _ b399 x400 s402 => pts_T) (by exact fun q403 _ _ _ _ _ b399 x400 s402 _ => x_out (x_kd (E := fun (b_ : (((((Unit × Unit) × (Int × (List Int))) × Unit) × Unit) × (Unit × Unit))) => (pT2 pInt pStr) ((((b_.1.1.1.2.1) - (3 : Int)) * x371), x400)) (x_tup2 (a_cons (x_kd (E := fun (b_ : ((((Unit × Unit) × (Int × (List Int))) × Unit) × Unit)) => pInt (((b_.1.1.2.1) - (3 : Int)) * x371)) (x_mul (x_kd (E := fun (b_ : (((Unit × Unit) × (Int × (List Int))) × Unit)) => pInt ((b_.1.2.1) - (3 : Int))) (x_sub (x_kd (E := fun (b_ : ((Unit × Unit) × (Int × (List Int)))) => pInt b_.2.1) (x_OF_f (kk := 1) (E1 := (oL pInt)) (E2 := pInt) (s1 := fun (_ : Unit) (_ : Unit) => s402) (v1 := v398) k_l_next (hr.mono (by decide)) g_l_next F_l_next.kp b_l_next 0 (x_var (p := pV v398) 9) (fun _ => x_int (i := 7)) (fun _ _ => rfl))) (fun _ => x_int (i := 3)))) (fun _ => x_var (p := pInt x371) 5))) (fun _ => a_cons (x_var (p := pStr x400) 20) (fun _ => a_nil))) pInt pStr (fun (b : (((((Unit × Unit) × (Int × (List Int))) × Unit) × Unit) × (Unit × Unit))) => (((b.1.1.1.2.1) - (3 : Int)) * x371)) (fun (b : (((((Unit × Unit) × (Int × (List Int))) × Unit) × Unit) × (Unit × Unit))) => x400)))) (sw_true rfl rfl rfl (by decide +kernel))) fun (b407 : (Unit × ((List (Int × Str)) × (List Int)))) x406 v409 => s_frz (i := 10) (c := ⟨v409, (oL (pT2 pInt pStr)) x406, none⟩) 0 (s_T (T := (M_l_choice (b407.2.2) x406 (s393.1) (s368.1)).bind fun r410 => (M_l_bounds (r410.2) (r410.1)).bind fun r411 => (some (r411.1 : List (Option Int))).bind fun x412 => (M_l_next (r411.2) (2 : Int)).bind fun r414 => (some ((decide ((r414.1) = (0 : Int))) : Bool)).bind fun x415 => (M_l_heads x406 (s393.1)).bind fun r417 => (compM r417 () (fun x419 s420 => if true = true then grd (x419.length + 1 < scanBound) (some (some (sideL x419), ())) else some (none, ()))).bind fun r422 => (some (r422.1 : List (List Int))).bind fun x423 => (M_l_tails x406 (s393.1)).bind fun r427 => (some (r427 : List (List Int))).bind fun x428 => (some ([] : List (List Int))).bind fun x430 => grd (rg (x423.length : Int) = true) ((forS (rngL 0 (x423.length : Int).toNat) (x430 : (List (List Int))) fun x436 s435 => (atI x423 x436).bind fun x467 => (compM x467 () (fun x469 s474 => (atI x428 x436).bind fun x476 => (atI x412 (0 : Int)).bind fun x477 => (atI x412 (1 : Int)).bind fun x478 => (M_l_leads x469 x476 x477 x478).bind fun r479 => if r479 = true then some (some x469, ()) else some (none, ()))).bind fun r480 => grd (s435.length < sizeLine) (some (s435 ++ [r480.1]))).bind fun s437 => (some (x406 : List (Int × Str))).bind fun x438 => (M_l_next (r414.2) ((s361.1) + (1 : Int))).bind fun r440 => (some (r440.1 : Int)).bind fun x441 => (some (([] : List (Str × List Int)) : List (Str × List Int))).bind fun x443 => grd ((cutL x376 (some x441) none).length + (cutL x376 none (some x441)).length ≤ sizeLine) ((forS ((cutL x376 (some x441) none) ++ (cutL x376 none (some x441))) (x443 : (List (Str × List Int))) fun x449 s448 => (dget (s393.1) x449).bind fun x465 => grd (s448.length < sizeLine) (some (dput s448 x449 x465))).bind fun s450 => grd (rg (2 : Int) = true) ((forL (rngL 0 (2 : Int).toNat) (() : Unit) fun x453 s452 => (M_sum_layers x438 s450).bind fun r457 => (M_l_layers_due r457 x423).bind fun r459 => if (!(r459.1)) = true then inB (some (Tm.rt false)) else (M_l_live x438 s450 x412 x415).bind fun r461 => (M_l_layers_due r461 s437).bind fun r463 => if (!(r463.1)) = true then inB (some (Tm.rt false)) else some (Bo.nx ())).bind (boK (fun s454 => grd (okG (dgL (dgT2 dgInt dgStr)) x438 x406 = true) (((if (decide (x438 = x406)) = true then ((if (deq s450 (s393.1)) = true then grd ((cutL x376 (some x441) none).length + (cutL x376 none (some x441)).length ≤ sizeLine) (grd (okG (dgL dgStr) (s450.map Prod.fst) ((cutL x376 (some x441) none) ++ (cutL x376 none (some x441))) = true) (some ((decide ((s450.map Prod.fst) = ((cutL x376 (some x441) none) ++ (cutL x376 none (some x441))))), ()))) else some (false, ()))).bind fun c455 => some (c455.1, ()) else some (false, ()))).bind fun c456 => some (c456.1))) id))))) (s_let (i := 11) (pL (pOp pInt)) sc_law.nd (x_kd (E := fun (b_ : ((Unit × ((Unit × (Unit × (Unit × Unit))) × (Int × (List Int)))) × ((List (Option Int)) × (List Int)))) => (pL (pOp pInt)) b_.2.1) (x_frz (o_kd (E := fun (b_ : ((Unit × ((Unit × (Unit × (Unit × Unit))) × (Int × (List Int)))) × ((List (Option Int)) × (List Int)))) => (oL (pOp pInt)) b_.2.1) (x_OF_o (kk := 2) (E1 := (oL pInt)) (E2 := pInt) (v1 := v398) k_l_bounds (hr.mono (by decide)) g_l_bounds F_l_bounds.kp b_l_bounds 0 (x_var (p := pV v398) 9) (fun _ => x_kd (E := fun (b_ : ((Unit × (Unit × (Unit × Unit))) × (Int × (List Int)))) => pInt b_.2.1) (x_OFFF_f (kk := 2) (E1 := (oL pInt)) (E2 := (pL (pT2 pInt pStr))) (E3 := (pM (κ := Str) (pL pInt))) (E4 := (pL pInt)) (s1 := fun (_ : Unit) (_ : Unit) (_ : Unit) (_ : Unit) => b407.2.2) (v1 := v398) k_l_choice (hr.mono (by decide)) g_l_choice F_l_choice.kp b_l_choice 0 (x_var (p := pV v398) 9) (fun _ => x_var (p := (pL (pT2 pInt pStr)) x406) 10) (fun _ _ => x_var (p := (pM (κ := Str) (pL pInt)) s393.1) 8) (fun _ _ _ => x_var (p := (pL pInt) s368.1) 4) (fun _ _ _ _ => rfl))) (fun _ _ => rfl))))) fun (b413 : ((Unit × ((Unit × (Unit × (Unit × Unit))) × (Int × (List Int)))) × ((List (Option Int)) × (List Int)))) x412 => s_T (T := (M_l_next (b413.2.2) (2 : Int)).bind fun r414 => (some ((decide ((r414.1) = (0 : Int))) : Bool)).bind fun x415 => (M_l_heads x406 (s393.1)).bind fun r417 => (compM r417 () (fun x419 s420 => if true = true then grd (x419.length + 1 < scanBound) (some (some (sideL x419), ())) else some (none, ()))).bind fun r422 => (some (r422.1 : List (List Int))).bind fun x423 => (M_l_tails x406 (s393.1)).bind fun r427 => (some (r427 : List (List Int))).bind fun x428 => (some ([] : List (List Int))).bind fun x430 => grd (rg (x423.length : Int) = true) ((forS (rngL 0 (x423.length : Int).toNat) (x430 : (List (List Int))) fun x436 s435 => (atI x423 x436).bind fun x467 => (compM x467 () (fun x469 s474 => (atI x428 x436).bind fun x476 => (atI x412 (0 : Int)).bind fun x477 => (atI x412 (1 : Int)).bind fun x478 => (M_l_leads x469 x476 x477 x478).bind fun r479 => if r479 = true then some (some x469, ()) else some (none, ()))).bind fun r480 => grd (s435.length < sizeLine) (some (s435 ++ [r480.1]))).bind fun s437 => (some (x406 : List (Int × Str))).bind fun x438 => (M_l_next (r414.2) ((s361.1) + (1 : Int))).bind fun r440 => (some (r440.1 : Int)).bind fun x441 => (some (([] : List (Str × List Int)) : List (Str × List Int))).bind fun x443 => grd ((cutL x376 (some x441) none).length + (cutL x376 none (some x441)).length ≤ sizeLine) ((forS ((cutL x376 (some x441) none) ++ (cutL x376 none (some x441))) (x443 : (List (Str × List Int))) fun x449 s448 => (dget (s393.1) x449).bind fun x465 => grd (s448.length < sizeLine) (some (dput s448 x449 x465))).bind fun s450 => grd (rg (2 : Int) = true) ((forL (rngL 0 (2 : Int).toNat) (() : Unit) fun x453 s452 => (M_sum_layers x438 s450).bind fun r457 => (M_l_layers_due r457 x423).bind fun r459 => if (!(r459.1)) = true then inB (some (Tm.rt false)) else (M_l_live x438 s450 x412 x415).bind fun r461 => (M_l_layers_due r461 s437).bind fun r463 => if (!(r463.1)) = true then inB (some (Tm.rt false)) else some (Bo.nx ())).bind (boK (fun s454 => grd (okG (dgL (dgT2 dgInt dgStr)) x438 x406 = true) (((if (decide (x438 = x406)) = true then ((if (deq s450 (s393.1)) = true then grd ((cutL x376 (some x441) none).length + (cutL x376 none (some x441)).length ≤ sizeLine) (grd (okG (dgL dgStr) (s450.map Prod.fst) ((cutL x376 (some x441) none) ++ (cutL x376 none (some x441))) = true) (some ((decide ((s450.map Prod.fst) = ((cutL x376 (some x441) none) ++ (cutL x376 none (some x441))))), ()))) else some (false, ()))).bind fun c455 => some (c455.1, ()) else some (false, ()))).bind fun c456 => some (c456.1))) id))))) (s_let (i := 12) pBl sc_law.nd (x_kd (E := fun (b_ : (((Unit × Unit) × (Int × (List Int))) × Unit)) => pBl (decide ((b_.1.2.1) = (0 : Int)))) (x_eqI (x_kd (E := fun (b_ : ((Unit × Unit) × (Int × (List Int)))) => pInt b_.2.1) (x_OF_f (kk := 1) (E1 := (oL pInt)) (E2 := pInt) (s1 := fun (_ : Unit) (_ : Unit) => b413.2.2) (v1 := v398) k_l_next (hr.mono (by decide)) g_l_next F_l_next.kp b_l_next 0 (x_var (p := pV v398) 9) (fun _ => x_int (i := 2)) (fun _ _ => rfl))) (fun _ => x_int (i := 0)))) fun (b416 : (((Unit × Unit) × (Int × (List Int))) × Unit)) x415 => s_T (T := (M_l_heads x406 (s393.1)).bind fun r417 => (compM r417 () (fun x419 s420 => if true = true then grd (x419.length + 1 < scanBound) (some (some (sideL x419), ())) else some (none, ()))).bind fun r422 => (some (r422.1 : List (List Int))).bind fun x423 => (M_l_tails x406 (s393.1)).bind fun r427 => (some (r427 : List (List Int))).bind fun x428 => (some ([] : List (List Int))).bind fun x430 => grd (rg (x423.length : Int) = true) ((forS (rngL 0 (x423.length : Int).toNat) (x430 : (List (List Int))) fun x436 s435 => (atI x423 x436).bind fun x467 => (compM x467 () (fun x469 s474 => (atI x428 x436).bind fun x476 => (atI x412 (0 : Int)).bind fun x477 => (atI x412 (1 : Int)).bind fun x478 => (M_l_leads x469 x476 x477 x478).bind fun r479 => if r479 = true then some (some x469, ()) else some (none, ()))).bind fun r480 => grd (s435.length < sizeLine) (some (s435 ++ [r480.1]))).bind fun s437 => (some (x406 : List (Int × Str))).bind fun x438 => (M_l_next (b416.1.2.2) ((s361.1) + (1 : Int))).bind fun r440 => (some (r440.1 : Int)).bind fun x441 => (some (([] : List (Str × List Int)) : List (Str × List Int))).bind fun x443 => grd ((cutL x376 (some x441) none).length + (cutL x376 none (some x441)).length ≤ sizeLine) ((forS ((cutL x376 (some x441) none) ++ (cutL x376 none (some x441))) (x443 : (List (Str × List Int))) fun x449 s448 => (dget (s393.1) x449).bind fun x465 => grd (s448.length < sizeLine) (some (dput s448 x449 x465))).bind fun s450 => grd (rg (2 : Int) = true) ((forL (rngL 0 (2 : Int).toNat) (() : Unit) fun x453 s452 => (M_sum_layers x438 s450).bind fun r457 => (M_l_layers_due r457 x423).bind fun r459 => if (!(r459.1)) = true then inB (some (Tm.rt false)) else (M_l_live x438 s450 x412 x415).bind fun r461 => (M_l_layers_due r461 s437).bind fun r463 => if (!(r463.1)) = true then inB (some (Tm.rt false)) else some (Bo.nx ())).bind (boK (fun s454 => grd (okG (dgL (dgT2 dgInt dgStr)) x438 x406 = true) (((if (decide (x438 = x406)) = true then ((if (deq s450 (s393.1)) = true then grd ((cutL x376 (some x441) none).length + (cutL x376 none (some x441)).length ≤ sizeLine) (grd (okG (dgL dgStr) (s450.map Prod.fst) ((cutL x376 (some x441) none) ++ (cutL x376 none (some x441))) = true) (some ((decide ((s450.map Prod.fst) = ((cutL x376 (some x441) none) ++ (cutL x376 none (some x441))))), ()))) else some (false, ()))).bind fun c455 => some (c455.1, ()) else some (false, ()))).bind fun c456 => some (c456.1))) id))))) (s_letOA (i := 13) (oL (pL pInt)) (a_lc (i := 13) (own := [("_law_head", 22)]) (C := fun (b_ : ((Unit × Unit) × (List (List Int)))) (s_ : Unit) => [⟨v398, (oL pInt) b416.1.2.2, none⟩, ⟨v382, (oL pInt) s393.2, none⟩, ⟨v353, (oL pInt) b372.1.2.2.2, none⟩]) (s0 := fun (b_ : ((Unit × Unit) × (List (List Int)))) => ()) (s2 := fun (b_ : ((Unit × Unit) × (List (List Int)))) (x_ : List Int) (s_ : Unit) (c_ : Unit) => ()) (s3 := fun (b_ : ((Unit × Unit) × (List (List Int)))) (x_ : List Int) (s_ : Unit) (c_ : Unit) (d_ : Unit) => ()) (Ex := (pL pInt)) (Ee := (pL pInt)) (δ := (List Int)) (y := fun (b_ : ((Unit × Unit) × (List (List Int)))) (x_ : List Int) (s_ : Unit) (c_ : Unit) (d_ : Unit) => (sideL x_)) (T2 := fun (b_ : ((Unit × Unit) × (List (List Int)))) (x_ : List Int) (s_ : Unit) (c_ : Unit) => grd (x_.length + 1 < scanBound) (some (some (sideL x_), ()))) (c := fun (b_ : ((Unit × Unit) × (List (List Int)))) (x_ : List Int) (s_ : Unit) (c_ : Unit) => true) (f := fun (b_ : ((Unit × Unit) × (List (List Int)))) (x_ : List Int) (s_ : Unit) => if true = true then grd (x_.length + 1 < scanBound) (some (some (sideL x_), ())) else some (none, ())) sc_law.nd (i_list (x_kd (E := fun (b_ : ((Unit × Unit) × (List (List Int)))) => (pL (pL pInt)) b_.2) (x_frz (o_kd (E := fun (b_ : ((Unit × Unit) × (List (List Int)))) => (oL (pL pInt)) b_.2) (x_FF_o (kk := 2) (E1 := (pL (pT2 pInt pStr))) (E2 := (pM (κ := Str) (pL pInt))) k_l_heads (hr.mono (by decide)) g_l_heads F_l_heads.kp b_l_heads (x_var (p := (pL (pT2 pInt pStr)) x406) 10) (fun _ => x_var (p := (pM (κ := Str) (pL pInt)) s393.1) 8)))))) (blkOk_by (own := [("_law_head", 22)]) (N := ["_law_script", "_law_stream_here", "_law_size", "_law_most", "_law_pool_here", "_law_scale", "_law_names_here", "_law_second", "_law_sides_here", "_law_third", "_law_terms", "_law_bounds_here", "_law_left_out", "_law_layers", "_law_tails_here", "_law_live_here", "_law_k", "_law_handed_terms", "_law_shift", "_law_handed", "_law_name", "_law_turn", "_law_head", "_law_total"]) (sc := defScope (top 26)) (by decide +kernel)) (fun _ _ _ _ _ => pg_name (i := 22) sc_law.nd rfl (by first | exact .inl rfl | exact .inr rfl)) (tw_name 22) (fun _ => rfl) (by exact fun q421 _ _ _ _ _ b418 x419 s420 => pts_T) (by exact fun q421 _ _ _ _ _ b418 x419 s420 _ => x_out (x_kd (E := fun (b_ : Unit) => (pL pInt) (sideL x419)) (x_frz (o_kd (E := fun (b_ : Unit) => (oL pInt) (sideL x419)) (x_sortedSet m_sorted (x_set m_set (x_var (p := (pL pInt) x419) 22) (fun _ => rdF))))))) (sw_true rfl rfl rfl (by decide +kernel))) fun (b424 : (((Unit × Unit) × (List (List Int))) × ((List (List Int)) × Unit))) x423 v426 => s_frz (i := 13) (c := ⟨v426, (oL (pL pInt)) x423, none⟩) 0 (s_T (T := (M_l_tails x406 (s393.1)).bind fun r427 => (some (r427 : List (List Int))).bind fun x428 => (some ([] : List (List Int))).bind fun x430 => grd (rg (x423.length : Int) = true) ((forS (rngL 0 (x423.length : Int).toNat) (x430 : (List (List Int))) fun x436 s435 => (atI x423 x436).bind fun x467 => (compM x467 () (fun x469 s474 => (atI x428 x436).bind fun x476 => (atI x412 (0 : Int)).bind fun x477 => (atI x412 (1 : Int)).bind fun x478 => (M_l_leads x469 x476 x477 x478).bind fun r479 => if r479 = true then some (some x469, ()) else some (none, ()))).bind fun r480 => grd (s435.length < sizeLine) (some (s435 ++ [r480.1]))).bind fun s437 => (some (x406 : List (Int × Str))).bind fun x438 => (M_l_next (b416.1.2.2) ((s361.1) + (1 : Int))).bind fun r440 => (some (r440.1 : Int)).bind fun x441 => (some (([] : List (Str × List Int)) : List (Str × List Int))).bind fun x443 => grd ((cutL x376 (some x441) none).length + (cutL x376 none (some x441)).length ≤ sizeLine) ((forS ((cutL x376 (some x441) none) ++ (cutL x376 none (some x441))) (x443 : (List (Str × List Int))) fun x449 s448 => (dget (s393.1) x449).bind fun x465 => grd (s448.length < sizeLine) (some (dput s448 x449 x465))).bind fun s450 => grd (rg (2 : Int) = true) ((forL (rngL 0 (2 : Int).toNat) (() : Unit) fun x453 s452 => (M_sum_layers x438 s450).bind fun r457 => (M_l_layers_due r457 x423).bind fun r459 => if (!(r459.1)) = true then inB (some (Tm.rt false)) else (M_l_live x438 s450 x412 x415).bind fun r461 => (M_l_layers_due r461 s437).bind fun r463 => if (!(r463.1)) = true then inB (some (Tm.rt false)) else some (Bo.nx ())).bind (boK (fun s454 => grd (okG (dgL (dgT2 dgInt dgStr)) x438 x406 = true) (((if (decide (x438 = x406)) = true then ((if (deq s450 (s393.1)) = true then grd ((cutL x376 (some x441) none).length + (cutL x376 none (some x441)).length ≤ sizeLine) (grd (okG (dgL dgStr) (s450.map Prod.fst) ((cutL x376 (some x441) none) ++ (cutL x376 none (some x441))) = true) (some ((decide ((s450.map Prod.fst) = ((cutL x376 (some x441) none) ++ (cutL x376 none (some x441))))), ()))) else some (false, ()))).bind fun c455 => some (c455.1, ()) else some (false, ()))).bind fun c456 => some (c456.1))) id))))) (s_let (i := 14) (pL (pL pInt)) sc_law.nd (x_kd (E := fun (b_ : ((Unit × Unit) × (List (List Int)))) => (pL (pL pInt)) b_.2) (x_FF_f (kk := 2) (E1 := (pL (pT2 pInt pStr))) (E2 := (pM (κ := Str) (pL pInt))) k_l_tails (hr.mono (by decide)) g_l_tails F_l_tails.kp b_l_tails (x_var (p := (pL (pT2 pInt pStr)) x406) 10) (fun _ => x_var (p := (pM (κ := Str) (pL pInt)) s393.1) 8))) fun (b429 : ((Unit × Unit) × (List (List Int)))) x428 => s_T (T := (some ([] : List (List Int))).bind fun x430 => grd (rg (x423.length : Int) = true) ((forS (rngL 0 (x423.length : Int).toNat) (x430 : (List (List Int))) fun x436 s435 => (atI x423 x436).bind fun x467 => (compM x467 () (fun x469 s474 => (atI x428 x436).bind fun x476 => (atI x412 (0 : Int)).bind fun x477 => (atI x412 (1 : Int)).bind fun x478 => (M_l_leads x469 x476 x477 x478).bind fun r479 => if r479 = true then some (some x469, ()) else some (none, ()))).bind fun r480 => grd (s435.length < sizeLine) (some (s435 ++ [r480.1]))).bind fun s437 => (some (x406 : List (Int × Str))).bind fun x438 => (M_l_next (b416.1.2.2) ((s361.1) + (1 : Int))).bind fun r440 => (some (r440.1 : Int)).bind fun x441 => (some (([] : List (Str × List Int)) : List (Str × List Int))).bind fun x443 => grd ((cutL x376 (some x441) none).length + (cutL x376 none (some x441)).length ≤ sizeLine) ((forS ((cutL x376 (some x441) none) ++ (cutL x376 none (some x441))) (x443 : (List (Str × List Int))) fun x449 s448 => (dget (s393.1) x449).bind fun x465 => grd (s448.length < sizeLine) (some (dput s448 x449 x465))).bind fun s450 => grd (rg (2 : Int) = true) ((forL (rngL 0 (2 : Int).toNat) (() : Unit) fun x453 s452 => (M_sum_layers x438 s450).bind fun r457 => (M_l_layers_due r457 x423).bind fun r459 => if (!(r459.1)) = true then inB (some (Tm.rt false)) else (M_l_live x438 s450 x412 x415).bind fun r461 => (M_l_layers_due r461 s437).bind fun r463 => if (!(r463.1)) = true then inB (some (Tm.rt false)) else some (Bo.nx ())).bind (boK (fun s454 => grd (okG (dgL (dgT2 dgInt dgStr)) x438 x406 = true) (((if (decide (x438 = x406)) = true then ((if (deq s450 (s393.1)) = true then grd ((cutL x376 (some x441) none).length + (cutL x376 none (some x441)).length ≤ sizeLine) (grd (okG (dgL dgStr) (s450.map Prod.fst) ((cutL x376 (some x441) none) ++ (cutL x376 none (some x441))) = true) (some ((decide ((s450.map Prod.fst) = ((cutL x376 (some x441) none) ++ (cutL x376 none (some x441))))), ()))) else some (false, ()))).bind fun c455 => some (c455.1, ()) else some (false, ()))).bind fun c456 => some (c456.1))) id))))) (s_letO (i := 15) (oL (pL pInt)) sc_law.nd (o_kd (E := fun (b_ : Unit) => (oL (pL pInt)) ([])) (x_nil (pL pInt))) fun (b431 : Unit) x430 v433 => s_T (T := grd (rg (x423.length : Int) = true) ((forS (rngL 0 (x423.length : Int).toNat) (x430 : (List (List Int))) fun x436 s435 => (atI x423 x436).bind fun x467 => (compM x467 () (fun x469 s474 => (atI x428 x436).bind fun x476 => (atI x412 (0 : Int)).bind fun x477 => (atI x412 (1 : Int)).bind fun x478 => (M_l_leads x469 x476 x477 x478).bind fun r479 => if r479 = true then some (some x469, ()) else some (none, ()))).bind fun r480 => grd (s435.length < sizeLine) (some (s435 ++ [r480.1]))).bind fun s437 => (some (x406 : List (Int × Str))).bind fun x438 => (M_l_next (b416.1.2.2) ((s361.1) + (1 : Int))).bind fun r440 => (some (r440.1 : Int)).bind fun x441 => (some (([] : List (Str × List Int)) : List (Str × List Int))).bind fun x443 => grd ((cutL x376 (some x441) none).length + (cutL x376 none (some x441)).length ≤ sizeLine) ((forS ((cutL x376 (some x441) none) ++ (cutL x376 none (some x441))) (x443 : (List (Str × List Int))) fun x449 s448 => (dget (s393.1) x449).bind fun x465 => grd (s448.length < sizeLine) (some (dput s448 x449 x465))).bind fun s450 => grd (rg (2 : Int) = true) ((forL (rngL 0 (2 : Int).toNat) (() : Unit) fun x453 s452 => (M_sum_layers x438 s450).bind fun r457 => (M_l_layers_due r457 x423).bind fun r459 => if (!(r459.1)) = true then inB (some (Tm.rt false)) else (M_l_live x438 s450 x412 x415).bind fun r461 => (M_l_layers_due r461 s437).bind fun r463 => if (!(r463.1)) = true then inB (some (Tm.rt false)) else some (Bo.nx ())).bind (boK (fun s454 => grd (okG (dgL (dgT2 dgInt dgStr)) x438 x406 = true) (((if (decide (x438 = x406)) = true then ((if (deq s450 (s393.1)) = true then grd ((cutL x376 (some x441) none).length + (cutL x376 none (some x441)).length ≤ sizeLine) (grd (okG (dgL dgStr) (s450.map Prod.fst) ((cutL x376 (some x441) none) ++ (cutL x376 none (some x441))) = true) (some ((decide ((s450.map Prod.fst) = ((cutL x376 (some x441) none) ++ (cutL x376 none (some x441))))), ()))) else some (false, ()))).bind fun c455 => some (c455.1, ()) else some (false, ()))).bind fun c456 => some (c456.1))) id))))) (s_forS PassesOwn.never (fun (b_ : Unit) (s_ : (List (List Int))) => ([some ((pS K) a1), some (pV v353), some (pInt s361.1), some (pInt s361.2.1), some ((pL pInt) s368.1), some (pInt x371), some ((pL pStr) x376), some (pV v382), some ((pM (κ := Str) (pL pInt)) s393.1), some (pV v398), some ((pL (pT2 pInt pStr)) x406), some ((pL (pOp pInt)) x412), some (pBl x415), some ((pL (pL pInt)) x423), some ((pL (pL pInt)) x428), some (pV v433), none, none, none, none, none, none, none, none], [⟨v433, (oL (pL pInt)) s_, none⟩, ⟨v398, (oL pInt) b416.1.2.2, none⟩, ⟨v382, (oL pInt) s393.2, none⟩, ⟨v353, (oL pInt) b372.1.2.2.2, none⟩])) (fun (b_ : Unit) => x430) (i_rng1 m_range (x_kd (E := fun (b_ : Unit) => pInt (x423.length : Int)) (x_lenL (Ee := (pL pInt)) m_len (x_var (p := (pL (pL pInt)) x423) 13) (fun _ => rdF)))) (pg_name (i := 16) sc_law.nd rfl (by first | exact .inl rfl | exact .inr rfl)) (tg_name 16) (fun _ => ⟨rfl, rfl, rfl, rfl, rfl, rfl, rfl, rfl, rfl, rfl, rfl, rfl, rfl, rfl, rfl, rfl, trivial⟩) (fun _ => List.Sublist.refl _) (fun b434 x436 s435 => s_T (T := (atI x423 x436).bind fun x467 => (compM x467 () (fun x469 s474 => (atI x428 x436).bind fun x476 => (atI x412 (0 : Int)).bind fun x477 => (atI x412 (1 : Int)).bind fun x478 => (M_l_leads x469 x476 x477 x478).bind fun r479 => if r479 = true then some (some x469, ()) else some (none, ()))).bind fun r480 => grd (s435.length < sizeLine) (some (s435 ++ [r480.1]))) (s_expr (x_app 0 (x_var (p := pV v433) 15) (fun _ => x_kd (E := fun (b_ : (((Unit × Unit) × (List Int)) × ((List Int) × Unit))) => (pL pInt) b_.2.1) (x_frz (o_kd (E := fun (b_ : (((Unit × Unit) × (List Int)) × ((List Int) × Unit))) => (oL pInt) b_.2.1) (x_lc (own := [("_law_total", 23)]) (C := fun (b_ : ((Unit × Unit) × (List Int))) (s_ : Unit) => [⟨v433, (oL (pL pInt)) s435, none⟩, ⟨v398, (oL pInt) b416.1.2.2, none⟩, ⟨v382, (oL pInt) s393.2, none⟩, ⟨v353, (oL pInt) b372.1.2.2.2, none⟩]) (s0 := fun (b_ : ((Unit × Unit) × (List Int))) => ()) (s2 := fun (b_ : ((Unit × Unit) × (List Int))) (x_ : Int) (s_ : Unit) (c_ : ((Unit × (((Unit × Unit) × (List Int)) × (((Unit × Unit) × (Option Int)) × ((Unit × Unit) × (Option Int))))) × Bool)) => ()) (s3 := fun (b_ : ((Unit × Unit) × (List Int))) (x_ : Int) (s_ : Unit) (c_ : ((Unit × (((Unit × Unit) × (List Int)) × (((Unit × Unit) × (Option Int)) × ((Unit × Unit) × (Option Int))))) × Bool)) (d_ : Unit) => ()) (Ex := pInt) (Ee := pInt) (δ := Int) (y := fun (b_ : ((Unit × Unit) × (List Int))) (x_ : Int) (s_ : Unit) (c_ : ((Unit × (((Unit × Unit) × (List Int)) × (((Unit × Unit) × (Option Int)) × ((Unit × Unit) × (Option Int))))) × Bool)) (d_ : Unit) => x_) (T2 := fun (b_ : ((Unit × Unit) × (List Int))) (x_ : Int) (s_ : Unit) (c_ : ((Unit × (((Unit × Unit) × (List Int)) × (((Unit × Unit) × (Option Int)) × ((Unit × Unit) × (Option Int))))) × Bool)) => some (some x_, ())) (c := fun (b_ : ((Unit × Unit) × (List Int))) (x_ : Int) (s_ : Unit) (c_ : ((Unit × (((Unit × Unit) × (List Int)) × (((Unit × Unit) × (Option Int)) × ((Unit × Unit) × (Option Int))))) × Bool)) => c_.2) (f := fun (b_ : ((Unit × Unit) × (List Int))) (x_ : Int) (s_ : Unit) => (atI x428 x436).bind fun x476 => (atI x412 (0 : Int)).bind fun x477 => (atI x412 (1 : Int)).bind fun x478 => (M_l_leads x_ x476 x477 x478).bind fun r479 => if r479 = true then some (some x_, ()) else some (none, ())) sc_law.nd (i_list (x_kd (E := fun (b_ : ((Unit × Unit) × (List Int))) => (pL pInt) b_.2) (x_ixL (Ee := (pL pInt)) (x_var (p := (pL (pL pInt)) x423) 13) (fun _ => x_var (p := pInt x436) 16) (fun _ _ => rdF)))) (blkOk_by (own := [("_law_total", 23)]) (N := ["_law_script", "_law_stream_here", "_law_size", "_law_most", "_law_pool_here", "_law_scale", "_law_names_here", "_law_second", "_law_sides_here", "_law_third", "_law_terms", "_law_bounds_here", "_law_left_out", "_law_layers", "_law_tails_here", "_law_live_here", "_law_k", "_law_handed_terms", "_law_shift", "_law_handed", "_law_name", "_law_turn", "_law_head", "_law_total"]) (sc := defScope (top 26)) (by decide +kernel)) (fun _ _ _ _ _ => pg_name (i := 23) sc_law.nd rfl (by first | exact .inl rfl | exact .inr rfl)) (tw_name 23) (fun _ => rfl) (by exact fun q475 _ _ _ _ _ b468 x469 s474 => t_out (pts_one (t_kd (c := fun (b_ : ((Unit × (((Unit × Unit) × (List Int)) × (((Unit × Unit) × (Option Int)) × ((Unit × Unit) × (Option Int))))) × Bool)) => b_.2) (t_val (x_kd (E := fun (b_ : ((Unit × (((Unit × Unit) × (List Int)) × (((Unit × Unit) × (Option Int)) × ((Unit × Unit) × (Option Int))))) × Bool)) => pBl b_.2) (x_FFFF_f (kk := 2) (E1 := pInt) (E2 := (pL pInt)) (E3 := (pOp pInt)) (E4 := (pOp pInt)) k_l_leads (hr.mono (by decide)) g_l_leads F_l_leads.kp b_l_leads (x_var (p := pInt x469) 23) (fun _ => x_kd (E := fun (b_ : ((Unit × Unit) × (List Int))) => (pL pInt) b_.2) (x_ixL (Ee := (pL pInt)) (x_var (p := (pL (pL pInt)) x428) 14) (fun _ => x_var (p := pInt x436) 16) (fun _ _ => rdF))) (fun _ _ => x_kd (E := fun (b_ : ((Unit × Unit) × (Option Int))) => (pOp pInt) b_.2) (x_ixL (Ee := (pOp pInt)) (x_var (p := (pL (pOp pInt)) x412) 11) (fun _ => x_int (i := 0)) (fun _ _ => rdF))) (fun _ _ _ => x_kd (E := fun (b_ : ((Unit × Unit) × (Option Int))) => (pOp pInt) b_.2) (x_ixL (Ee := (pOp pInt)) (x_var (p := (pL (pOp pInt)) x412) 11) (fun _ => x_int (i := 1)) (fun _ _ => rdF))))))))) (by exact fun q475 _ _ _ _ _ b468 x469 s474 _ => x_out (x_var (p := pInt x469) 23)))))) (fun _ => rfl) (fun _ _ => rfl)) fun (b481 : (Unit × (((Unit × Unit) × (List Int)) × ((List Int) × Unit)))) => s_end (s435 ++ [b481.2.2.1]) rfl ⟨rfl, rfl, rfl, rfl, rfl, rfl, rfl, rfl, rfl, rfl, rfl, rfl, rfl, rfl, rfl, rfl, trivial⟩ (List.Sublist.refl _))) fun b434 s437 => s_frz (i := 15) (c := ⟨v433, (oL (pL pInt)) s437, none⟩) 0 (s_T (T := (some (x406 : List (Int × Str))).bind fun x438 => (M_l_next (b416.1.2.2) ((s361.1) + (1 : Int))).bind fun r440 => (some (r440.1 : Int)).bind fun x441 => (some (([] : List (Str × List Int)) : List (Str × List Int))).bind fun x443 => grd ((cutL x376 (some x441) none).length + (cutL x376 none (some x441)).length ≤ sizeLine) ((forS ((cutL x376 (some x441) none) ++ (cutL x376 none (some x441))) (x443 : (List (Str × List Int))) fun x449 s448 => (dget (s393.1) x449).bind fun x465 => grd (s448.length < sizeLine) (some (dput s448 x449 x465))).bind fun s450 => grd (rg (2 : Int) = true) ((forL (rngL 0 (2 : Int).toNat) (() : Unit) fun x453 s452 => (M_sum_layers x438 s450).bind fun r457 => (M_l_layers_due r457 x423).bind fun r459 => if (!(r459.1)) = true then inB (some (Tm.rt false)) else (M_l_live x438 s450 x412 x415).bind fun r461 => (M_l_layers_due r461 s437).bind fun r463 => if (!(r463.1)) = true then inB (some (Tm.rt false)) else some (Bo.nx ())).bind (boK (fun s454 => grd (okG (dgL (dgT2 dgInt dgStr)) x438 x406 = true) (((if (decide (x438 = x406)) = true then ((if (deq s450 (s393.1)) = true then grd ((cutL x376 (some x441) none).length + (cutL x376 none (some x441)).length ≤ sizeLine) (grd (okG (dgL dgStr) (s450.map Prod.fst) ((cutL x376 (some x441) none) ++ (cutL x376 none (some x441))) = true) (some ((decide ((s450.map Prod.fst) = ((cutL x376 (some x441) none) ++ (cutL x376 none (some x441))))), ()))) else some (false, ()))).bind fun c455 => some (c455.1, ()) else some (false, ()))).bind fun c456 => some (c456.1))) id)))) (s_let (i := 17) (pL (pT2 pInt pStr)) sc_law.nd (x_kd (E := fun (b_ : Unit) => (pL (pT2 pInt pStr)) x406) (x_frz (o_kd (E := fun (b_ : Unit) => (oL (pT2 pInt pStr)) x406) (x_listL (Ee := (pT2 pInt pStr)) m_list (x_var (p := (pL (pT2 pInt pStr)) x406) 10) (fun _ => rdF))))) fun (b439 : Unit) x438 => s_T (T := (M_l_next (b416.1.2.2) ((s361.1) + (1 : Int))).bind fun r440 => (some (r440.1 : Int)).bind fun x441 => (some (([] : List (Str × List Int)) : List (Str × List Int))).bind fun x443 => grd ((cutL x376 (some x441) none).length + (cutL x376 none (some x441)).length ≤ sizeLine) ((forS ((cutL x376 (some x441) none) ++ (cutL x376 none (some x441))) (x443 : (List (Str × List Int))) fun x449 s448 => (dget (s393.1) x449).bind fun x465 => grd (s448.length < sizeLine) (some (dput s448 x449 x465))).bind fun s450 => grd (rg (2 : Int) = true) ((forL (rngL 0 (2 : Int).toNat) (() : Unit) fun x453 s452 => (M_sum_layers x438 s450).bind fun r457 => (M_l_layers_due r457 x423).bind fun r459 => if (!(r459.1)) = true then inB (some (Tm.rt false)) else (M_l_live x438 s450 x412 x415).bind fun r461 => (M_l_layers_due r461 s437).bind fun r463 => if (!(r463.1)) = true then inB (some (Tm.rt false)) else some (Bo.nx ())).bind (boK (fun s454 => grd (okG (dgL (dgT2 dgInt dgStr)) x438 x406 = true) (((if (decide (x438 = x406)) = true then ((if (deq s450 (s393.1)) = true then grd ((cutL x376 (some x441) none).length + (cutL x376 none (some x441)).length ≤ sizeLine) (grd (okG (dgL dgStr) (s450.map Prod.fst) ((cutL x376 (some x441) none) ++ (cutL x376 none (some x441))) = true) (some ((decide ((s450.map Prod.fst) = ((cutL x376 (some x441) none) ++ (cutL x376 none (some x441))))), ()))) else some (false, ()))).bind fun c455 => some (c455.1, ()) else some (false, ()))).bind fun c456 => some (c456.1))) id)))) (s_let (i := 18) pInt sc_law.nd (x_kd (E := fun (b_ : ((Unit × (Unit × Unit)) × (Int × (List Int)))) => pInt b_.2.1) (x_OF_f (kk := 1) (E1 := (oL pInt)) (E2 := pInt) (s1 := fun (_ : Unit) (_ : (Unit × Unit)) => b416.1.2.2) (v1 := v398) k_l_next (hr.mono (by decide)) g_l_next F_l_next.kp b_l_next 0 (x_var (p := pV v398) 9) (fun _ => x_kd (E := fun (b_ : (Unit × Unit)) => pInt ((s361.1) + (1 : Int))) (x_add (x_var (p := pInt s361.1) 2) (fun _ => x_int (i := 1)))) (fun _ _ => rfl))) fun (b442 : ((Unit × (Unit × Unit)) × (Int × (List Int)))) x441 => s_T (T := (some (([] : List (Str × List Int)) : List (Str × List Int))).bind fun x443 => grd ((cutL x376 (some x441) none).length + (cutL x376 none (some x441)).length ≤ sizeLine) ((forS ((cutL x376 (some x441) none) ++ (cutL x376 none (some x441))) (x443 : (List (Str × List Int))) fun x449 s448 => (dget (s393.1) x449).bind fun x465 => grd (s448.length < sizeLine) (some (dput s448 x449 x465))).bind fun s450 => grd (rg (2 : Int) = true) ((forL (rngL 0 (2 : Int).toNat) (() : Unit) fun x453 s452 => (M_sum_layers x438 s450).bind fun r457 => (M_l_layers_due r457 x423).bind fun r459 => if (!(r459.1)) = true then inB (some (Tm.rt false)) else (M_l_live x438 s450 x412 x415).bind fun r461 => (M_l_layers_due r461 s437).bind fun r463 => if (!(r463.1)) = true then inB (some (Tm.rt false)) else some (Bo.nx ())).bind (boK (fun s454 => grd (okG (dgL (dgT2 dgInt dgStr)) x438 x406 = true) (((if (decide (x438 = x406)) = true then ((if (deq s450 (s393.1)) = true then grd ((cutL x376 (some x441) none).length + (cutL x376 none (some x441)).length ≤ sizeLine) (grd (okG (dgL dgStr) (s450.map Prod.fst) ((cutL x376 (some x441) none) ++ (cutL x376 none (some x441))) = true) (some ((decide ((s450.map Prod.fst) = ((cutL x376 (some x441) none) ++ (cutL x376 none (some x441))))), ()))) else some (false, ()))).bind fun c455 => some (c455.1, ()) else some (false, ()))).bind fun c456 => some (c456.1))) id)))) (s_letO (i := 19) (oM (κ := Str) (pL pInt)) sc_law.nd (o_kd (E := fun (b_ : Unit) => (oM (κ := Str) (pL pInt)) ([] : List (Str × List Int))) (x_dict0 (κ := Str) (pL pInt))) fun (b444 : Unit) x443 v446 => s_T (T := grd ((cutL x376 (some x441) none).length + (cutL x376 none (some x441)).length ≤ sizeLine) ((forS ((cutL x376 (some x441) none) ++ (cutL x376 none (some x441))) (x443 : (List (Str × List Int))) fun x449 s448 => (dget (s393.1) x449).bind fun x465 => grd (s448.length < sizeLine) (some (dput s448 x449 x465))).bind fun s450 => grd (rg (2 : Int) = true) ((forL (rngL 0 (2 : Int).toNat) (() : Unit) fun x453 s452 => (M_sum_layers x438 s450).bind fun r457 => (M_l_layers_due r457 x423).bind fun r459 => if (!(r459.1)) = true then inB (some (Tm.rt false)) else (M_l_live x438 s450 x412 x415).bind fun r461 => (M_l_layers_due r461 s437).bind fun r463 => if (!(r463.1)) = true then inB (some (Tm.rt false)) else some (Bo.nx ())).bind (boK (fun s454 => grd (okG (dgL (dgT2 dgInt dgStr)) x438 x406 = true) (((if (decide (x438 = x406)) = true then ((if (deq s450 (s393.1)) = true then grd ((cutL x376 (some x441) none).length + (cutL x376 none (some x441)).length ≤ sizeLine) (grd (okG (dgL dgStr) (s450.map Prod.fst) ((cutL x376 (some x441) none) ++ (cutL x376 none (some x441))) = true) (some ((decide ((s450.map Prod.fst) = ((cutL x376 (some x441) none) ++ (cutL x376 none (some x441))))), ()))) else some (false, ()))).bind fun c455 => some (c455.1, ()) else some (false, ()))).bind fun c456 => some (c456.1))) id)))) (s_forS PassesOwn.never (fun (b_ : ((Unit × (Unit × Unit)) × (Unit × (Unit × Unit)))) (s_ : (List (Str × List Int))) => ([some ((pS K) a1), some (pV v353), some (pInt s361.1), some (pInt s361.2.1), some ((pL pInt) s368.1), some (pInt x371), some ((pL pStr) x376), some (pV v382), some ((pM (κ := Str) (pL pInt)) s393.1), some (pV v398), some ((pL (pT2 pInt pStr)) x406), some ((pL (pOp pInt)) x412), some (pBl x415), some ((pL (pL pInt)) x423), some ((pL (pL pInt)) x428), some ((pL (pL pInt)) s437), none, some ((pL (pT2 pInt pStr)) x438), some (pInt x441), some (pV v446), none, none, none, none], [⟨v446, (oM (κ := Str) (pL pInt)) s_, none⟩, ⟨v398, (oL pInt) b442.2.2, none⟩, ⟨v382, (oL pInt) s393.2, none⟩, ⟨v353, (oL pInt) b372.1.2.2.2, none⟩])) (fun (b_ : ((Unit × (Unit × Unit)) × (Unit × (Unit × Unit)))) => x443) (i_list (x_kd (E := fun (b_ : ((Unit × (Unit × Unit)) × (Unit × (Unit × Unit)))) => (pL pStr) ((cutL x376 (some x441) none) ++ (cutL x376 none (some x441)))) (x_frz (o_kd (E := fun (b_ : ((Unit × (Unit × Unit)) × (Unit × (Unit × Unit)))) => (oL pStr) ((cutL x376 (some x441) none) ++ (cutL x376 none (some x441)))) (x_cat (Ee := pStr) (x_kd (E := fun (b_ : (Unit × (Unit × Unit))) => (pL pStr) (cutL x376 (some x441) none)) (x_frz (o_kd (E := fun (b_ : (Unit × (Unit × Unit))) => (oL pStr) (cutL x376 (some x441) none)) (x_slL (Ee := pStr) (x_var (p := (pL pStr) x376) 6) (fun _ => p_some (i := fun (b_ : Unit) => x441) (x_var (p := pInt x441) 18)) (fun _ _ => p_none) (fun _ _ _ => rdF))))) (fun _ => x_kd (E := fun (b_ : (Unit × (Unit × Unit))) => (pL pStr) (cutL x376 none (some x441))) (x_frz (o_kd (E := fun (b_ : (Unit × (Unit × Unit))) => (oL pStr) (cutL x376 none (some x441))) (x_slL (Ee := pStr) (x_var (p := (pL pStr) x376) 6) (fun _ => p_none) (fun _ _ => p_some (i := fun (b_ : Unit) => x441) (x_var (p := pInt x441) 18)) (fun _ _ _ => rdF))))) (fun _ _ => rdF) (fun _ _ => rdF)))))) (pg_name (i := 20) sc_law.nd rfl (by first | exact .inl rfl | exact .inr rfl)) (tg_name 20) (fun _ => ⟨rfl, rfl, rfl, rfl, rfl, rfl, rfl, rfl, rfl, rfl, rfl, rfl, rfl, rfl, rfl, rfl, rfl, rfl, rfl, trivial⟩) (fun _ => List.Sublist.refl _) (fun b447 x449 s448 => s_T (T := (dget (s393.1) x449).bind fun x465 => grd (s448.length < sizeLine) (some (dput s448 x449 x465))) (s_dput (κ := Str) (Ee := (pL pInt)) 0 hr.units (x_kd (E := fun (b_ : ((Unit × Unit) × (List Int))) => (pL pInt) b_.2) (x_frz (o_kd (E := fun (b_ : ((Unit × Unit) × (List Int))) => (oL pInt) b_.2) (x_listL (Ee := pInt) m_list (x_kd (E := fun (b_ : ((Unit × Unit) × (List Int))) => (pL pInt) b_.2) (x_dget (κ := Str) (Ee := (pL pInt)) hr.units (x_var (p := (pM (κ := Str) (pL pInt)) s393.1) 8) (fun _ => x_var (p := pStr x449) 20) (fun _ _ => rdMF))) (fun _ => rdF))))) (fun _ => x_var (p := pV v446) 19) (fun _ _ => x_var (p := pStr x449) 20) (fun _ _ _ => rfl) fun (b466 : ((((Unit × Unit) × (List Int)) × Unit) × Unit)) => s_end (dput s448 x449 b466.1.1.2) rfl ⟨rfl, rfl, rfl, rfl, rfl, rfl, rfl, rfl, rfl, rfl, rfl, rfl, rfl, rfl, rfl, rfl, rfl, rfl, rfl, trivial⟩ (List.Sublist.refl _))) fun b447 s450 => s_frz (i := 19) (c := ⟨v446, (oM (κ := Str) (pL pInt)) s450, none⟩) 0 (s_T (T := grd (rg (2 : Int) = true) ((forL (rngL 0 (2 : Int).toNat) (() : Unit) fun x453 s452 => (M_sum_layers x438 s450).bind fun r457 => (M_l_layers_due r457 x423).bind fun r459 => if (!(r459.1)) = true then inB (some (Tm.rt false)) else (M_l_live x438 s450 x412 x415).bind fun r461 => (M_l_layers_due r461 s437).bind fun r463 => if (!(r463.1)) = true then inB (some (Tm.rt false)) else some (Bo.nx ())).bind (boK (fun s454 => grd (okG (dgL (dgT2 dgInt dgStr)) x438 x406 = true) (((if (decide (x438 = x406)) = true then ((if (deq s450 (s393.1)) = true then grd ((cutL x376 (some x441) none).length + (cutL x376 none (some x441)).length ≤ sizeLine) (grd (okG (dgL dgStr) (s450.map Prod.fst) ((cutL x376 (some x441) none) ++ (cutL x376 none (some x441))) = true) (some ((decide ((s450.map Prod.fst) = ((cutL x376 (some x441) none) ++ (cutL x376 none (some x441))))), ()))) else some (false, ()))).bind fun c455 => some (c455.1, ()) else some (false, ()))).bind fun c456 => some (c456.1))) id))) (s_for PassesOwn.never (fun (b_ : Unit) (s_ : Unit) => ([some ((pS K) a1), some (pV v353), some (pInt s361.1), some (pInt s361.2.1), some ((pL pInt) s368.1), some (pInt x371), some ((pL pStr) x376), some (pV v382), some ((pM (κ := Str) (pL pInt)) s393.1), some (pV v398), some ((pL (pT2 pInt pStr)) x406), some ((pL (pOp pInt)) x412), some (pBl x415), some ((pL (pL pInt)) x423), some ((pL (pL pInt)) x428), some ((pL (pL pInt)) s437), none, some ((pL (pT2 pInt pStr)) x438), some (pInt x441), some ((pM (κ := Str) (pL pInt)) s450), none, none, none, none], [⟨v398, (oL pInt) b442.2.2, none⟩, ⟨v382, (oL pInt) s393.2, none⟩, ⟨v353, (oL pInt) b372.1.2.2.2, none⟩])) (fun (b_ : Unit) => ()) (ι := id) (R := (RF ⟨H, Mq⟩ (fun _ => []) pBl)) (i_rng1 m_range (x_int (i := 2))) (pg_name (i := 21) sc_law.nd rfl (by first | exact .inl rfl | exact .inr rfl)) (tg_name 21) (fun _ => ⟨rfl, rfl, rfl, rfl, rfl, rfl, rfl, rfl, rfl, rfl, rfl, rfl, rfl, rfl, rfl, rfl, rfl, rfl, rfl, trivial⟩) (fun _ => List.Sublist.refl _) (fun b451 x453 s452 => s_T (T := (M_sum_layers x438 s450).bind fun r457 => (M_l_layers_due r457 x423).bind fun r459 => if (!(r459.1)) = true then inB (some (Tm.rt false)) else (M_l_live x438 s450 x412 x415).bind fun r461 => (M_l_layers_due r461 s437).bind fun r463 => if (!(r463.1)) = true then inB (some (Tm.rt false)) else some (Bo.nx ())) (s_ifB ins_T (t_kd (c := fun (b_ : ((((Unit × Unit) × (List (List Int))) × Unit) × (Bool × (List (List Int))))) => (!(b_.2.1))) (t_not (t_kd (c := fun (b_ : ((((Unit × Unit) × (List (List Int))) × Unit) × (Bool × (List (List Int))))) => b_.2.1) (t_val (x_kd (E := fun (b_ : ((((Unit × Unit) × (List (List Int))) × Unit) × (Bool × (List (List Int))))) => pBl b_.2.1) (x_TF_f (kk := 3) (E1 := (oLO (oL pInt))) (E2 := (pL (pL pInt))) k_l_layers_due (hr.mono (by decide)) g_l_layers_due F_l_layers_due.kp b_l_layers_due (o_kd (E := fun (b_ : ((Unit × Unit) × (List (List Int)))) => (oLO (oL pInt)) b_.2) (x_FF_o (kk := 3) (E1 := (pL (pT2 pInt pStr))) (E2 := (pM (κ := Str) (pL pInt))) k_sum_layers (hr.mono (by decide)) g_sum_layers F_sum_layers.kp b_sum_layers (x_var (p := (pL (pT2 pInt pStr)) x438) 17) (fun _ => x_var (p := (pM (κ := Str) (pL pInt)) s450) 19))) (fun _ vt_  => x_var (p := (pL (pL pInt)) x423) 13))))))) (fun (b460 : ((((Unit × Unit) × (List (List Int))) × Unit) × (Bool × (List (List Int))))) => s_T (T := some (Tm.rt false)) (s_ret (P := (fun _ => [])) (Rp := pBl) (ι := Tm.rt) (rv := fun (b : Unit) => false) (fun _ _ _ h => h) x_bl (fun _ => .cons _ (.cons _ (.cons _ (.slnil)))))) fun (b460 : ((((Unit × Unit) × (List (List Int))) × Unit) × (Bool × (List (List Int))))) => s_T (T := (M_l_live x438 s450 x412 x415).bind fun r461 => (M_l_layers_due r461 s437).bind fun r463 => if (!(r463.1)) = true then inB (some (Tm.rt false)) else some (Bo.nx ())) (s_ifB ins_T (t_kd (c := fun (b_ : ((((Unit × (Unit × (Unit × Unit))) × (List (List Int))) × Unit) × (Bool × (List (List Int))))) => (!(b_.2.1))) (t_not (t_kd (c := fun (b_ : ((((Unit × (Unit × (Unit × Unit))) × (List (List Int))) × Unit) × (Bool × (List (List Int))))) => b_.2.1) (t_val (x_kd (E := fun (b_ : ((((Unit × (Unit × (Unit × Unit))) × (List (List Int))) × Unit) × (Bool × (List (List Int))))) => pBl b_.2.1) (x_TF_f (kk := 3) (E1 := (oLO (oL pInt))) (E2 := (pL (pL pInt))) k_l_layers_due (hr.mono (by decide)) g_l_layers_due F_l_layers_due.kp b_l_layers_due (o_kd (E := fun (b_ : ((Unit × (Unit × (Unit × Unit))) × (List (List Int)))) => (oLO (oL pInt)) b_.2) (x_FFFF_o (kk := 5) (E1 := (pL (pT2 pInt pStr))) (E2 := (pM (κ := Str) (pL pInt))) (E3 := (pL (pOp pInt))) (E4 := pBl) k_l_live (hr.mono (by decide)) g_l_live F_l_live.kp b_l_live (x_var (p := (pL (pT2 pInt pStr)) x438) 17) (fun _ => x_var (p := (pM (κ := Str) (pL pInt)) s450) 19) (fun _ _ => x_var (p := (pL (pOp pInt)) x412) 11) (fun _ _ _ => x_var (p := pBl x415) 12))) (fun _ vt_  => x_var (p := (pL (pL pInt)) s437) 15))))))) (fun (b464 : ((((Unit × (Unit × (Unit × Unit))) × (List (List Int))) × Unit) × (Bool × (List (List Int))))) => s_T (T := some (Tm.rt false)) (s_ret (P := (fun _ => [])) (Rp := pBl) (ι := Tm.rt) (rv := fun (b : Unit) => false) (fun _ _ _ h => h) x_bl (fun _ => .cons _ (.cons _ (.cons _ (.slnil)))))) fun (b464 : ((((Unit × (Unit × (Unit × Unit))) × (List (List Int))) × Unit) × (Bool × (List (List Int))))) => s_endB () ⟨rfl, rfl, rfl, rfl, rfl, rfl, rfl, rfl, rfl, rfl, rfl, rfl, rfl, rfl, rfl, rfl, rfl, rfl, rfl, trivial⟩ (List.Sublist.refl _)))) (fun b451 s454 => s_T (T := grd (okG (dgL (dgT2 dgInt dgStr)) x438 x406 = true) (((if (decide (x438 = x406)) = true then ((if (deq s450 (s393.1)) = true then grd ((cutL x376 (some x441) none).length + (cutL x376 none (some x441)).length ≤ sizeLine) (grd (okG (dgL dgStr) (s450.map Prod.fst) ((cutL x376 (some x441) none) ++ (cutL x376 none (some x441))) = true) (some ((decide ((s450.map Prod.fst) = ((cutL x376 (some x441) none) ++ (cutL x376 none (some x441))))), ()))) else some (false, ()))).bind fun c455 => some (c455.1, ()) else some (false, ()))).bind fun c456 => some (c456.1))) (s_ret (P := (fun _ => [])) (Rp := pBl) (ι := id) (rv := fun (b : ((Unit × Unit) × (Bool × Unit))) => b.2.1) (fun _ _ _ h => h) (x_kd (x_kd (E := fun (b_ : ((Unit × Unit) × (Bool × Unit))) => pBl b_.2.1) (v_andM (ΔS := fun (b_ : (Unit × Unit)) (s_ : Unit) => [⟨v398, (oL pInt) b442.2.2, none⟩, ⟨v382, (oL pInt) s393.2, none⟩, ⟨v353, (oL pInt) b372.1.2.2.2, none⟩]) (s1 := fun (b_ : (Unit × Unit)) => ()) (s2 := fun (b_ : (Unit × Unit)) (c_ : ((Unit × Unit) × (Bool × Unit))) => ()) (x_kd (E := fun (b_ : (Unit × Unit)) => pBl (decide (x438 = x406))) (x_eqG (dgL (dgT2 dgInt dgStr)) hr.units (x_var (p := (pL (pT2 pInt pStr)) x438) 17) (fun _ => x_var (p := (pL (pT2 pInt pStr)) x406) 10))) (fun _ => v_andM (ΔS := fun (b_ : (Unit × Unit)) (s_ : Unit) => [⟨v398, (oL pInt) b442.2.2, none⟩, ⟨v382, (oL pInt) s393.2, none⟩, ⟨v353, (oL pInt) b372.1.2.2.2, none⟩]) (s1 := fun (b_ : (Unit × Unit)) => ()) (s2 := fun (b_ : (Unit × Unit)) (c_ : (Unit × ((Unit × (Unit × Unit)) × (Unit × (Unit × Unit))))) => ()) (x_kd (E := fun (b_ : (Unit × Unit)) => pBl (deq s450 (s393.1))) (x_eqM (κ := Str) (room66 hr) (dtL dtInt) (x_var (p := (pM (κ := Str) (pL pInt)) s450) 19) (fun _ => x_var (p := (pM (κ := Str) (pL pInt)) s393.1) 8) (fun _ _ => rdMF) (fun _ _ => rdMF))) (fun _ => v_one (x_kd (E := fun (b_ : (Unit × ((Unit × (Unit × Unit)) × (Unit × (Unit × Unit))))) => pBl (decide ((s450.map Prod.fst) = ((cutL x376 (some x441) none) ++ (cutL x376 none (some x441)))))) (x_eqG (dgL dgStr) hr.units (x_kd (E := fun (b_ : Unit) => (pL pStr) (s450.map Prod.fst)) (x_frz (o_kd (E := fun (b_ : Unit) => (oL pStr) (s450.map Prod.fst)) (x_listD (κ := Str) (Ee := (pL pInt)) m_list (x_var (p := (pM (κ := Str) (pL pInt)) s450) 19) (fun _ => rdMF))))) (fun _ => x_kd (E := fun (b_ : ((Unit × (Unit × Unit)) × (Unit × (Unit × Unit)))) => (pL pStr) ((cutL x376 (some x441) none) ++ (cutL x376 none (some x441)))) (x_frz (o_kd (E := fun (b_ : ((Unit × (Unit × Unit)) × (Unit × (Unit × Unit)))) => (oL pStr) ((cutL x376 (some x441) none) ++ (cutL x376 none (some x441)))) (x_cat (Ee := pStr) (x_kd (E := fun (b_ : (Unit × (Unit × Unit))) => (pL pStr) (cutL x376 (some x441) none)) (x_frz (o_kd (E := fun (b_ : (Unit × (Unit × Unit))) => (oL pStr) (cutL x376 (some x441) none)) (x_slL (Ee := pStr) (x_var (p := (pL pStr) x376) 6) (fun _ => p_some (i := fun (b_ : Unit) => x441) (x_var (p := pInt x441) 18)) (fun _ _ => p_none) (fun _ _ _ => rdF))))) (fun _ => x_kd (E := fun (b_ : (Unit × (Unit × Unit))) => (pL pStr) (cutL x376 none (some x441))) (x_frz (o_kd (E := fun (b_ : (Unit × (Unit × Unit))) => (oL pStr) (cutL x376 none (some x441))) (x_slL (Ee := pStr) (x_var (p := (pL pStr) x376) 6) (fun _ => p_none) (fun _ _ => p_some (i := fun (b_ : Unit) => x441) (x_var (p := pInt x441) 18)) (fun _ _ _ => rdF))))) (fun _ _ => rdF) (fun _ _ => rdF)))))))) (fun _ => rfl) (fun _ _ => rfl)) (fun _ => rfl) (fun _ _ => rfl)))) (fun _ => .cons _ (.cons _ (.cons _ (.slnil)))))) (fun _ _ _ h => h))))))))))))))))))))))))))))))) (by unfold M_law; rfl)
end
end My
end
section
set_option Elab.async false
set_option linter.all false
set_option maxRecDepth 100000
namespace My
open PySem PySem.Spec PyProof.Rows L2 L3
/-! plain kit: an Option that is there, and what holds of it -/
def Wp {α : Type} (m : Option α) (Q : α → Prop) : Prop := ∃ a, m = some a ∧ Q a
section
variable {α β γ S ρ δ : Type}
theorem wp_some {a : α} {Q : α → Prop} (h : Q a) : Wp (some a) Q := ⟨a, rfl, h⟩
theorem wp_bind {m : Option α} {k : α → Option β} {Q : β → Prop} (h : Wp m fun a => Wp (k a) Q) : Wp (m.bind k) Q := by
  obtain ⟨a, e, b, e2, q⟩ := h
  exact ⟨b, by rw [e]; exact e2, q⟩
theorem wp_mono {m : Option α} {Q R : α → Prop} (h : Wp m Q) (f : ∀ a, Q a → R a) : Wp m R := by
  obtain ⟨a, e, q⟩ := h
  exact ⟨a, e, f a q⟩
/-- m's spec, then the rest -/
theorem wp_then {m : Option α} {k : α → Option β} {P : α → Prop} {Q : β → Prop} (h : Wp m P) (f : ∀ a, P a → Wp (k a) Q) : Wp (m.bind k) Q := wp_bind (wp_mono h f)
theorem wp_eq {m : Option α} {k : α → Option β} {a : α} {Q : β → Prop} (h : m = some a) (f : Wp (k a) Q) : Wp (m.bind k) Q := wp_bind ⟨a, h, f⟩
theorem wp_grd {c : Prop} [Decidable c] {m : Option α} {Q : α → Prop} (h : c) (f : Wp m Q) : Wp (grd c m) Q := by
  unfold grd
  rw [if_pos h]
  exact f
theorem wp_ite {c : Prop} [Decidable c] {m n : Option α} {Q : α → Prop} (h : c → Wp m Q) (f : ¬ c → Wp n Q) : Wp (if c then m else n) Q := by
  by_cases x : c
  · rw [if_pos x]; exact h x
  · rw [if_neg x]; exact f x
theorem wp_is {m : Option α} {a : α} (h : Wp m fun x => x = a) : m = some a := by
  obtain ⟨b, e, q⟩ := h
  rw [e, q]
theorem wp_of {m : Option α} {a : α} {Q : α → Prop} (h : m = some a) (q : Q a) : Wp m Q := ⟨a, h, q⟩
theorem gp {γ : Type} {c : Prop} [Decidable c] {x : Option γ} (h : c) : grd c x = x := if_pos h
/-- a loop: I of what has been walked -/
theorem wp_forS {f : α → S → Option S} {Q : S → Prop} (I : List α → S → Prop) : ∀ {xs : List α} {pre : List α} {s : S}, I pre s → (∀ p x t s, pre ++ xs = p ++ x :: t → I p s → Wp (f x s) (I (p ++ [x]))) → (∀ s, I (pre ++ xs) s → Q s) → Wp (forS xs s f) Q
  | [], pre, s, h0, _, hq => ⟨s, rfl, hq s (by simpa using h0)⟩
  | x :: xs, pre, s, h0, hs, hq => by
    obtain ⟨s1, e1, i1⟩ := hs pre x xs s rfl h0
    have ih := wp_forS (f := f) (Q := Q) I (xs := xs) (pre := pre ++ [x]) (s := s1) i1 (fun p y t s e => hs p y t s (by rw [← e]; simp)) (fun s hi => hq s (by simpa using hi))
    show Wp ((f x s).bind fun s' => forS xs s' f) Q
    exact wp_eq e1 ih
theorem wp_for {f : α → S → Option S} {Q : S → Prop} {xs : List α} {s : S} (I : List α → S → Prop) (h0 : I [] s) (hs : ∀ p x t s, xs = p ++ x :: t → I p s → Wp (f x s) (I (p ++ [x]))) (hq : ∀ s, I xs s → Q s) : Wp (forS xs s f) Q :=
  wp_forS (pre := []) I h0 (fun p x t s e => hs p x t s e) (fun s h => hq s h)
/-- .. that may end early: B what holds at a break, R what is returned -/
theorem wp_forLG {f : α → S → Option (Bo S (Tm S ρ))} {Q : Bo S ρ → Prop} (I : List α → S → Prop) : ∀ {xs : List α} {pre : List α} {s : S}, I pre s →
    (∀ p x t s, pre ++ xs = p ++ x :: t → I p s → Wp (f x s) fun o => match o with | .nx s' => I (p ++ [x]) s' | .tm (.ct s') => I (p ++ [x]) s' | .tm (.bk s') => Q (.nx s') | .tm (.rt r) => Q (.tm r)) → (∀ s, I (pre ++ xs) s → Q (.nx s)) → Wp (forL xs s f) Q
  | [], pre, s, h0, _, hq => ⟨.nx s, rfl, hq s (by simpa using h0)⟩
  | x :: xs, pre, s, h0, hs, hq => by
    obtain ⟨o, e1, i1⟩ := hs pre x xs s rfl h0
    have go : ∀ s1, I (pre ++ [x]) s1 → Wp (forL xs s1 f) Q := fun s1 i1 => wp_forLG I (xs := xs) (pre := pre ++ [x]) (s := s1) i1 (fun p y t s e => hs p y t s (by rw [← e]; simp)) (fun s hi => hq s (by simpa using hi))
    show Wp ((f x s).bind _) Q
    refine wp_eq e1 ?_
    match o, i1 with
    | .nx s', i1 => exact go s' i1
    | .tm (.ct s'), i1 => exact go s' i1
    | .tm (.bk s'), i1 => exact ⟨_, rfl, i1⟩
    | .tm (.rt r), i1 => exact ⟨_, rfl, i1⟩
theorem wp_forL {f : α → S → Option (Bo S (Tm S ρ))} {Q : Bo S ρ → Prop} {xs : List α} {s : S} (I : List α → S → Prop) (h0 : I [] s)
    (hs : ∀ p x t s, xs = p ++ x :: t → I p s → Wp (f x s) fun o => match o with | .nx s' => I (p ++ [x]) s' | .tm (.ct s') => I (p ++ [x]) s' | .tm (.bk s') => Q (.nx s') | .tm (.rt r) => Q (.tm r)) (hq : ∀ s, I xs s → Q (.nx s)) : Wp (forL xs s f) Q :=
  wp_forLG (pre := []) I h0 (fun p x t s e => hs p x t s e) (fun s h => hq s h)
/-- a comprehension without effects -/
theorem compM_pure {f : α → S → Option (Option δ × S)} {g : α → Option δ} {s : S} : ∀ {xs : List α}, (∀ x ∈ xs, f x s = some (g x, s)) → compM xs s f = some (xs.filterMap g, s)
  | [], _ => rfl
  | x :: xs, h => by
    have ih := compM_pure (f := f) (g := g) (s := s) (xs := xs) fun y hy => h y (List.mem_cons_of_mem _ hy)
    unfold compM
    rw [h x List.mem_cons_self]
    simp only [Option.bind_some]
    rw [ih]
    simp only [Option.bind_some, List.filterMap_cons]
    cases g x <;> rfl
theorem filterMap_some {α δ : Type} {g : α → δ} : ∀ xs : List α, xs.filterMap (fun x => some (g x)) = xs.map g
  | [] => rfl
  | x :: xs => by rw [List.filterMap_cons]; simp [filterMap_some xs]
/-- .. with effects -/
theorem wp_compM {f : α → S → Option (Option δ × S)} {Q : List δ × S → Prop} (I : List α → List δ → S → Prop) : ∀ {xs : List α} {pre : List α} {out : List δ} {s : S}, I pre out s → (∀ p x t o s, pre ++ xs = p ++ x :: t → I p o s → Wp (f x s) fun r => I (p ++ [x]) (o ++ r.1.toList) r.2) → (∀ r : List δ × S, I (pre ++ xs) (out ++ r.1) r.2 → Q r) → Wp (compM xs s f) Q
  | [], pre, out, s, h0, _, hq => ⟨([], s), rfl, hq ([], s) (by simpa using h0)⟩
  | x :: xs, pre, out, s, h0, hs, hq => by
    obtain ⟨⟨o1, s1⟩, e1, i1⟩ := hs pre x xs out s rfl h0
    obtain ⟨r, e2, q2⟩ := wp_compM (f := f) (Q := fun r => Q (o1.toList ++ r.1, r.2)) I (xs := xs) (pre := pre ++ [x]) (out := out ++ o1.toList) (s := s1) i1 (fun p y t o s e => hs p y t o s (by rw [← e]; simp)) (fun r hi => hq (o1.toList ++ r.1, r.2) (by simpa using hi))
    refine ⟨(o1.toList ++ r.1, r.2), ?_, q2⟩
    unfold compM
    rw [e1]
    simp only [Option.bind_some]
    rw [e2]
    cases o1 <;> rfl
/-- .. one for each, with P -/
theorem wp_compA {f : α → S → Option (Option δ × S)} {Q : List δ × S → Prop} {xs : List α} {s : S} (J : S → Prop) (P : δ → Prop) (h0 : J s) (hs : ∀ x ∈ xs, ∀ s, J s → Wp (f x s) fun r => ∃ y, r.1 = some y ∧ P y ∧ J r.2) (hq : ∀ ys s, ys.length = xs.length → (∀ y ∈ ys, P y) → J s → Q (ys, s)) : Wp (compM xs s f) Q :=
  wp_compM (fun p o s => o.length = p.length ∧ (∀ y ∈ o, P y) ∧ J s) (pre := []) (out := []) ⟨rfl, (fun _ h => absurd h List.not_mem_nil), h0⟩ (fun p x t o s e ⟨hl, hp, hj⟩ => wp_mono (hs x (by rw [show xs = p ++ x :: t from e]; simp) s hj) fun r ⟨y, e1, e2, e3⟩ => ⟨by rw [e1]; simp [hl], fun z hz => by
    rw [e1] at hz
    rcases List.mem_append.mp hz with h | h
    · exact hp z h
    · simp at h; subst h; exact e2, e3⟩) fun r ⟨hl, hp, hj⟩ => hq r.1 r.2 hl hp hj
/-- .. some of them, with P -/
theorem wp_compF {f : α → S → Option (Option δ × S)} {Q : List δ × S → Prop} {xs : List α} {s : S} (J : S → Prop) (P : δ → Prop) (h0 : J s) (hs : ∀ x ∈ xs, ∀ s, J s → Wp (f x s) fun r => (∀ y, r.1 = some y → P y) ∧ J r.2) (hq : ∀ ys s, ys.length ≤ xs.length → (∀ y ∈ ys, P y) → J s → Q (ys, s)) : Wp (compM xs s f) Q :=
  wp_compM (fun p o s => o.length ≤ p.length ∧ (∀ y ∈ o, P y) ∧ J s) (pre := []) (out := []) ⟨Nat.le_refl _, (fun _ h => absurd h List.not_mem_nil), h0⟩ (fun p x t o s e ⟨hl, hp, hj⟩ => wp_mono (hs x (by rw [show xs = p ++ x :: t from e]; simp) s hj) fun r ⟨e2, e3⟩ => ⟨by
    cases h : r.1 <;> simp <;> omega, fun z hz => by
    rcases List.mem_append.mp hz with h | h
    · exact hp z h
    · cases h1 : r.1 with
      | none => rw [h1] at h; simp at h
      | some y => rw [h1] at h; simp at h; subst h; exact e2 _ h1, e3⟩) fun r ⟨hl, hp, hj⟩ => hq r.1 r.2 hl hp hj
/-- a while, by a measure -/
theorem wp_whL {f : S → Option (Option (Bo S (Tm S ρ)))} {Q : Bo S ρ → Prop} (I : S → Prop) (μ : S → Nat) : ∀ {n : Nat} {s : S}, I s → μ s < n →
    (∀ s, I s → Wp (f s) fun o => match o with | none => Q (.nx s) | some (.nx s') => I s' ∧ μ s' < μ s | some (.tm (.ct s')) => I s' ∧ μ s' < μ s | some (.tm (.bk s')) => Q (.nx s') | some (.tm (.rt r)) => Q (.tm r)) → Wp (whL n f s) Q
  | 0, s, _, h, _ => absurd h (Nat.not_lt_zero _)
  | n + 1, s, h0, hm, hs => by
    obtain ⟨o, e1, i1⟩ := hs s h0
    show Wp ((f s).bind _) Q
    refine wp_eq e1 ?_
    match o, i1 with
    | none, i1 => exact ⟨_, rfl, i1⟩
    | some (.nx s'), i1 => exact wp_whL I μ i1.1 (by omega) hs
    | some (.tm (.ct s')), i1 => exact wp_whL I μ i1.1 (by omega) hs
    | some (.tm (.bk s')), i1 => exact ⟨_, rfl, i1⟩
    | some (.tm (.rt r)), i1 => exact ⟨_, rfl, i1⟩
end
theorem sz : sizeLine = 16777216 := rfl
theorem sb : scanBound = 4096 := rfl
/-! indices -/
theorem atI_get {α : Type} {xs : List α} {i : Int} (h0 : 0 ≤ i) (h : i.toNat < xs.length) : atI xs i = some (xs[i.toNat]'h) := by
  unfold atI ixN
  rw [if_pos h0, if_pos (by omega)]
  simp [List.getElem?_eq_getElem h]
theorem wp_at {α : Type} {xs : List α} {i : Int} {Q : α → Prop} (h0 : 0 ≤ i) (h : i < xs.length) (q : ∀ x, x ∈ xs → xs[i.toNat]? = some x → Q x) : Wp (atI xs i) Q :=
  ⟨_, atI_get h0 (by omega), q _ (List.getElem_mem _) (List.getElem?_eq_getElem (by omega))⟩
theorem atI_last {α : Type} {s : List α} {y : α} : atI (s ++ [y]) (-(1 : Int)) = some y := by
  unfold atI ixN
  rw [if_neg (by decide), if_pos (by rw [List.length_append]; simp only [List.length_singleton]; omega)]
  simp only [Option.bind_some]
  rw [List.length_append, List.length_singleton, show ((-1 : Int) + ((s.length + 1 : Nat) : Int)).toNat = s.length by omega]
  simp
theorem rngL_mem {lo : Int} {n : Nat} {x : Int} : x ∈ rngL lo n ↔ lo ≤ x ∧ x < lo + n := by
  unfold rngL
  simp only [List.mem_map, List.mem_range]
  constructor
  · rintro ⟨i, h, rfl⟩; omega
  · intro h; exact ⟨(x - lo).toNat, by omega, by omega⟩
theorem mem_split {α : Type} {xs p t : List α} {x : α} (h : xs = p ++ x :: t) : x ∈ xs := by rw [h]; simp
theorem rngL_split {lo : Int} {n : Nat} {p t : List Int} {x : Int} (h : rngL lo n = p ++ x :: t) : x = lo + p.length ∧ p.length < n := by
  have hl := congrArg List.length h
  rw [rngL_len, List.length_append, List.length_cons] at hl
  have e := congrArg (fun l => l[p.length]?) h
  simp only [List.getElem?_append_right (Nat.le_refl _), Nat.sub_self, List.getElem?_cons_zero] at e
  unfold rngL at e
  rw [List.getElem?_map, List.getElem?_range (by omega)] at e
  simp only [Option.map_some, Option.some.injEq] at e
  exact ⟨e.symm, by omega⟩
/-! lists -/
theorem sub_len {α : Type} [DecidableEq α] : ∀ {xs ys : List α}, xs.Nodup → (∀ x ∈ xs, x ∈ ys) → xs.length ≤ ys.length
  | [], _, _, _ => Nat.zero_le _
  | x :: xs, ys, nd, h => by
    rw [List.nodup_cons] at nd
    have hx := h x List.mem_cons_self
    have := sub_len (xs := xs) (ys := ys.erase x) nd.2 (fun y hy => (List.mem_erase_of_ne (fun e => nd.1 (by rw [← e]; exact hy))).mpr (h y (List.mem_cons_of_mem _ hy)))
    rw [List.length_erase_of_mem hx] at this
    have := List.length_pos_of_mem hx
    rw [List.length_cons]
    omega
theorem filter_lt {α : Type} {p q : α → Bool} : ∀ {l : List α}, (∀ x ∈ l, q x = true → p x = true) → (∃ x ∈ l, p x = true ∧ q x = false) → (l.filter q).length < (l.filter p).length
  | [], _, ⟨_, h, _⟩ => nomatch h
  | x :: l, h, ⟨y, hy, h1, h2⟩ => by
    have hle : ∀ {l : List α}, (∀ x ∈ l, q x = true → p x = true) → (l.filter q).length ≤ (l.filter p).length := fun {l} h => by
      rw [← List.countP_eq_length_filter, ← List.countP_eq_length_filter]
      exact List.countP_mono_left h
    have ht : ∀ z ∈ l, q z = true → p z = true := fun z hz => h z (List.mem_cons_of_mem _ hz)
    rw [List.filter_cons, List.filter_cons]
    rcases List.mem_cons.mp hy with e | hy
    · subst e
      rw [h1, h2]
      simp only [if_pos, Bool.false_eq_true, if_false, List.length_cons]
      have := hle ht
      omega
    · have ih := filter_lt ht ⟨y, hy, h1, h2⟩
      have hx := h x List.mem_cons_self
      cases hq : q x <;> cases hp : p x
      · simpa using ih
      · simp; omega
      · rw [hx hq] at hp; cases hp
      · simp; omega
end My
end
section
set_option Elab.async false
set_option linter.all false
set_option maxRecDepth 100000
namespace My
open PySem PySem.Spec PyProof.Rows L2 L3
/-! dicts -/
section
variable {κ α : Type} [DecidableEq κ]
abbrev keys (d : List (κ × α)) : List κ := d.map Prod.fst
theorem dget_nil {k : κ} : dget ([] : List (κ × α)) k = none := rfl
theorem dget_cons {p : κ × α} {d : List (κ × α)} {k : κ} : dget (p :: d) k = if p.1 = k then some p.2 else dget d k := by
  by_cases h : p.1 = k
  · rw [if_pos h, dget_pos h]
  · rw [if_neg h, dget_neg h]
theorem dget_none {k : κ} : ∀ {d : List (κ × α)}, dget d k = none ↔ k ∉ keys d
  | [] => by simp [dget_nil]
  | p :: d => by
    rw [dget_cons]
    show _ ↔ k ∉ p.1 :: keys d
    rw [List.mem_cons]
    by_cases h : p.1 = k
    · rw [if_pos h]; simp [h]
    · rw [if_neg h, dget_none]
      simp only [not_or]
      exact ⟨fun x => ⟨fun e => h e.symm, x⟩, fun x => x.2⟩
theorem dget_some {k : κ} {d : List (κ × α)} (h : k ∈ keys d) : ∃ v, dget d k = some v := by
  cases e : dget d k with
  | none => exact absurd h (dget_none.mp e)
  | some v => exact ⟨v, rfl⟩
theorem dget_key {k : κ} {d : List (κ × α)} {v : α} (h : dget d k = some v) : k ∈ keys d := by
  by_cases x : k ∈ keys d
  · exact x
  · rw [dget_none.mpr x] at h; cases h
theorem dget_mem {k : κ} {v : α} : ∀ {d : List (κ × α)}, dget d k = some v → (k, v) ∈ d
  | [], h => by rw [dget_nil] at h; cases h
  | p :: d, h => by
    rw [dget_cons] at h
    by_cases e : p.1 = k
    · rw [if_pos e] at h; cases h; subst e; exact List.mem_cons_self
    · rw [if_neg e] at h; exact List.mem_cons_of_mem _ (dget_mem h)
theorem mem_dget {k : κ} {v : α} : ∀ {d : List (κ × α)}, (keys d).Nodup → (k, v) ∈ d → dget d k = some v
  | [], _, h => nomatch h
  | p :: d, nd, h => by
    have nd : (p.1 :: keys d).Nodup := nd
    rw [List.nodup_cons] at nd
    rw [dget_cons]
    rcases List.mem_cons.mp h with e | h
    · subst e; rw [if_pos rfl]
    · rw [if_neg (fun e => nd.1 (by rw [e]; exact List.mem_map.mpr ⟨(k, v), h, rfl⟩))]
      exact mem_dget nd.2 h
theorem dhas_iff {k : κ} {d : List (κ × α)} : dhas d k = true ↔ k ∈ keys d := by
  unfold dhas
  rw [List.any_eq_true, List.mem_map]
  simp only [decide_eq_true_eq]
theorem dhas_not {k : κ} {d : List (κ × α)} : dhas d k = false ↔ k ∉ keys d := by
  rw [← dhas_iff]; simp
theorem dput_old {d : List (κ × α)} {k : κ} {v : α} (h : k ∈ keys d) : dput d k v = d.map (fun p => if p.1 = k then (p.1, v) else p) := by
  have := dhas_iff.mpr h
  unfold dhas at this
  unfold dput
  rw [if_pos this]
theorem dput_new {d : List (κ × α)} {k : κ} {v : α} (h : k ∉ keys d) : dput d k v = d ++ [(k, v)] := by
  have := dhas_not.mpr h
  unfold dhas at this
  unfold dput
  rw [if_neg (by rw [this]; decide)]
theorem keys_put_old {d : List (κ × α)} {k : κ} {v : α} (h : k ∈ keys d) : keys (dput d k v) = keys d := by
  rw [dput_old h]
  unfold keys
  rw [List.map_map]
  apply List.map_congr_left
  intro p _
  simp only [Function.comp]
  split <;> rfl
theorem keys_put_new {d : List (κ × α)} {k : κ} {v : α} (h : k ∉ keys d) : keys (dput d k v) = keys d ++ [k] := by
  rw [dput_new h]; unfold keys; rw [List.map_append]; rfl
theorem mem_keys_put {d : List (κ × α)} {k j : κ} {v : α} : j ∈ keys (dput d k v) ↔ j ∈ keys d ∨ j = k := by
  by_cases h : k ∈ keys d
  · rw [keys_put_old h]
    exact ⟨.inl, fun x => x.elim id fun e => by rw [e]; exact h⟩
  · rw [keys_put_new h, List.mem_append, List.mem_singleton]
theorem nodup_put {d : List (κ × α)} {k : κ} {v : α} (nd : (keys d).Nodup) : (keys (dput d k v)).Nodup := by
  by_cases h : k ∈ keys d
  · rw [keys_put_old h]; exact nd
  · rw [keys_put_new h]
    refine List.nodup_append.mpr ⟨nd, List.nodup_cons.mpr ⟨List.not_mem_nil, List.nodup_nil⟩, fun a ha b hb e => h ?_⟩
    rw [List.mem_singleton] at hb
    rw [← hb, ← e]; exact ha
theorem get_map_put {k j : κ} {v : α} : ∀ {d : List (κ × α)}, dget (d.map (fun p => if p.1 = k then (p.1, v) else p)) j = if j = k then (dget d j).map (fun _ => v) else dget d j
  | [] => by simp [dget_nil]
  | p :: d => by
    rw [List.map_cons, dget_cons, dget_cons, get_map_put (d := d)]
    by_cases h : p.1 = k
    · rw [if_pos h]
      by_cases h2 : j = k
      · rw [if_pos h2]; simp [h, h2]
      · rw [if_neg h2]; simp only [h]
        rw [if_neg (fun e => h2 e.symm)]
        rw [if_neg h2, if_neg (fun e => h2 e.symm)]
    · rw [if_neg h]
      by_cases h3 : p.1 = j
      · have h2 : ¬ j = k := fun e => h (by rw [h3, e])
        simp [h3, h2]
      · simp [h3]
theorem get_app {j : κ} {e : List (κ × α)} : ∀ {d : List (κ × α)}, dget (d ++ e) j = (dget d j).orElse fun _ => dget e j
  | [] => rfl
  | p :: d => by
    rw [List.cons_append, dget_cons, dget_cons, get_app (d := d)]
    split <;> rfl
theorem get_put_same {d : List (κ × α)} {k : κ} {v : α} : dget (dput d k v) k = some v := by
  by_cases h : k ∈ keys d
  · rw [dput_old h, get_map_put, if_pos rfl]
    obtain ⟨u, e⟩ := dget_some h
    rw [e]; rfl
  · rw [dput_new h, get_app, dget_none.mpr h]
    show dget [(k, v)] k = _
    rw [dget_cons, if_pos rfl]
theorem get_put_ne {d : List (κ × α)} {k j : κ} {v : α} (hj : j ≠ k) : dget (dput d k v) j = dget d j := by
  by_cases h : k ∈ keys d
  · rw [dput_old h, get_map_put, if_neg hj]
  · rw [dput_new h, get_app]
    cases e : dget d j with
    | some u => rfl
    | none =>
      show dget [(k, v)] j = none
      rw [dget_cons, if_neg (fun e => hj e.symm)]
      rfl
theorem get_put {d : List (κ × α)} {k j : κ} {v : α} : dget (dput d k v) j = if j = k then some v else dget d j := by
  by_cases h : j = k
  · rw [if_pos h, h, get_put_same]
  · rw [if_neg h, get_put_ne h]
theorem wp_dget {d : List (κ × α)} {k : κ} {Q : α → Prop} (h : k ∈ keys d) (q : ∀ v, dget d k = some v → Q v) : Wp (dget d k) Q := by
  obtain ⟨v, e⟩ := dget_some h
  exact ⟨v, e, q v e⟩
/-- the values, by the keys -/
theorem vals_of {d : List (κ × α)} (nd : (keys d).Nodup) : (keys d).filterMap (dget d) = d.map Prod.snd := by
  unfold keys
  rw [List.filterMap_map]
  have : ∀ (l : List (κ × α)), (∀ p ∈ l, p ∈ d) → l.filterMap (dget d ∘ Prod.fst) = l.map Prod.snd := by
    intro l
    induction l with
    | nil => intro _; rfl
    | cons p l ih =>
      intro h
      rw [List.filterMap_cons, List.map_cons]
      simp only [Function.comp]
      rw [mem_dget nd (show (p.1, p.2) ∈ d from h p List.mem_cons_self)]
      simp only
      rw [← ih fun q hq => h q (List.mem_cons_of_mem _ hq)]
  exact this d fun _ h => h
theorem deq_self [DecidableEq α] {d : List (κ × α)} (nd : (keys d).Nodup) : deq d d = true := by
  unfold deq
  simp only [beq_self_eq_true, Bool.true_and, List.all_eq_true, decide_eq_true_eq]
  exact fun p hp => mem_dget nd hp
end
end My
end
section
set_option Elab.async false
set_option linter.all false
set_option maxRecDepth 100000
namespace My
open PySem PySem.Spec PyProof.Rows L2 L3
/-! what is drawn -/
def Stm (s : List Int) : Prop := ∃ a b c, s = [a, b, c]
theorem next_wp {s : List Int} {n : Int} (hs : Stm s) (h0 : 0 < n) (h1 : n < 1073741824) : Wp (M_l_next s n) fun r => 0 ≤ r.1 ∧ r.1 < n ∧ Stm r.2 := by
  obtain ⟨a, b, c, rfl⟩ := hs
  have e0 : atI [a, b, c] (1 : Int) = some b := rfl
  have e1 : ixN [a, b, c].length (1 : Int) = some 1 := rfl
  have hdv : dv n = true := by unfold dv; simp; omega
  unfold M_l_next
  rw [e0, e1]
  simp only [Option.bind_some, Option.getD_some, List.set]
  have e2 : atI [a, b + 1, c] (0 : Int) = some a := rfl
  have e3 : atI [a, b + 1, c] (2 : Int) = some c := rfl
  have e4 : atI [a, b + 1, c] (1 : Int) = some (b + 1) := rfl
  have e5 : ixN [a, b + 1, c].length (0 : Int) = some 0 := rfl
  rw [e2, e3, e4, e5]
  simp only [Option.bind_some, Option.getD_some, List.set]
  by_cases h : 0 < a
  · rw [if_pos (by simpa using h), gp h0, gp hdv]
    exact ⟨_, rfl, Int.emod_nonneg _ (by omega), Int.emod_lt_of_pos _ h0, ⟨_, _, _, rfl⟩⟩
  · rw [if_neg (by simpa using h)]
    rw [gp (by rfl), gp (by decide), gp, gp (by decide), gp, gp (by rfl), gp (by decide), gp (by rfl), gp h0]
    · exact ⟨_, rfl, Int.emod_nonneg _ (by omega), Int.emod_lt_of_pos _ h0, ⟨_, _, _, rfl⟩⟩
    · have := Int.emod_nonneg (((c + 7919 * (b + 1) + 13) % 2147483647) * ((c + 7919 * (b + 1) + 13) % 2147483647 + 48271)) (b := 2147483629) (by decide)
      have := Int.emod_lt_of_pos (((c + 7919 * (b + 1) + 13) % 2147483647) * ((c + 7919 * (b + 1) + 13) % 2147483647 + 48271)) (b := 2147483629) (by decide)
      unfold sm
      simp
      omega
    · have := Int.emod_nonneg (c + 7919 * (b + 1) + 13) (b := 2147483647) (by decide)
      have := Int.emod_lt_of_pos (c + 7919 * (b + 1) + 13) (b := 2147483647) (by decide)
      unfold sm
      simp
      omega
theorem stream_wp {xs : List Int} {k : Int} (hk : 0 ≤ k) : Wp (M_l_stream xs k) Stm := by
  unfold M_l_stream
  simp only [Option.bind_some]
  by_cases h : k < (xs.length : Int)
  · rw [if_pos (by simpa using h), atI_get hk (by omega)]
    simp only [Option.bind_some]
    rw [gp]
    · exact ⟨_, rfl, _, _, _, rfl⟩
    · rw [Bool.or_eq_true]
      right
      split <;> rfl
  · rw [if_neg (by simpa using h)]
    simp only [Option.bind_some]
    rw [gp]
    · exact ⟨_, rfl, _, _, _, rfl⟩
    · rfl
/-- one more draw, then the rest -/
theorem wp_next {β : Type} {s : List Int} {n : Int} {k : Int × List Int → Option β} {Q : β → Prop} (hs : Stm s) (h0 : 0 < n) (h1 : n < 1073741824) (f : ∀ r t, 0 ≤ r → r < n → Stm t → Wp (k (r, t)) Q) : Wp ((M_l_next s n).bind k) Q :=
  wp_then (next_wp hs h0 h1) fun r h => f r.1 r.2 h.1 h.2.1 h.2.2
theorem wp_stream {β : Type} {xs : List Int} {i : Int} {k : List Int → Option β} {Q : β → Prop} (hk : 0 ≤ i) (f : ∀ t, Stm t → Wp (k t) Q) : Wp ((M_l_stream xs i).bind k) Q :=
  wp_then (stream_wp hk) f
theorem wp_let {α β : Type} {a : α} {k : α → Option β} {Q : β → Prop} (h : Wp (k a) Q) : Wp ((some a).bind k) Q := h
theorem sm_lt {i : Int} (h1 : -(2 ^ 64) < i) (h2 : i < 2 ^ 64) : sm i = true := by unfold sm; rw [Bool.and_eq_true]; exact ⟨decide_eq_true h1, decide_eq_true h2⟩
theorem rg_lt {i : Int} (h1 : -1000000 ≤ i) (h2 : i ≤ 16777216) : rg i = true := by unfold rg; rw [Bool.and_eq_true]; exact ⟨decide_eq_true (by omega), decide_eq_true h2⟩
/-- strings -/
theorem len_app (x y : Str) : (x ++ y).length = x.length + y.length := by
  show (x.cps ++ y.cps).size = x.cps.size + y.cps.size
  exact Array.size_append ..
end My
end
section
set_option Elab.async false
set_option linter.all false
set_option maxRecDepth 100000
namespace My
open PySem PySem.Spec PyProof.Rows L2 L3
/-! texts -/
theorem cutS_len (z : Str) (lo hi : Option Int) : (cutS z lo hi).length ≤ z.length := by
  unfold cutS
  show (List.toArray _).size ≤ z.cps.size
  simp only [List.size_toArray, List.length_take, List.length_drop, Array.length_toList]
  omega
theorem cutS_mem {z : Str} {lo hi : Option Int} {c : Nat} (h : c ∈ (cutS z lo hi).cps.toList) : c ∈ z.cps.toList := by
  unfold cutS at h
  simp only [List.toList_toArray] at h
  exact List.mem_of_mem_drop (List.mem_of_mem_take h)
theorem len1 (c : Nat) : (⟨#[c]⟩ : Str).length = 1 := rfl
theorem cps_app (x y : Str) : (x ++ y).cps.toList = x.cps.toList ++ y.cps.toList := by
  show (x.cps ++ y.cps).toList = _
  exact Array.toList_append
theorem strOk_of {x : Str} (h : ∀ c ∈ x.cps.toList, c < 1000) : strOk x = true := by
  unfold strOk PyData.strOk
  rw [← Array.all_toList, List.all_eq_true]
  intro c hc
  have := h c hc
  exact decide_eq_true (by omega)
def isDg (c : Nat) : Bool := decide (48 ≤ c) && decide (c ≤ 57)
def dgOf (x : Str) : Option Nat := x.cps.toList.find? isDg
abbrev LET : Str := "qwertyuiopasdfghjklzxcvbnm_zyx"
abbrev DIG : Str := "7305186429"
theorem let_nodg : ∀ c ∈ LET.cps.toList, isDg c = false ∧ c < 1000 := by decide +kernel
theorem dig_dg : ∀ c ∈ DIG.cps.toList, isDg c = true ∧ c < 1000 := by decide +kernel
theorem dig_nd : DIG.cps.toList.Nodup := by decide +kernel
theorem dig_len : DIG.cps.toList.length = 10 := by decide +kernel
abbrev PN : List Str := ["x", "yard", "z", "u", "wide_one", "q", "pp", "t"]
theorem pn_nd : ∀ sh : Nat, sh < 8 → ∀ n : Nat, n < 9 → ((List.range n).map fun i => PN.getD ((i * 3 + sh) % 8) "").Nodup := by decide +kernel
theorem pn_ok : ∀ x ∈ PN, strOk x = true := by decide +kernel
theorem nodup_of_map {α β : Type} {f : α → β} : ∀ {l : List α}, (l.map f).Nodup → l.Nodup
  | [], _ => List.nodup_nil
  | x :: l, h => by
    rw [List.map_cons, List.nodup_cons] at h
    exact List.nodup_cons.mpr ⟨fun hx => h.1 (List.mem_map.mpr ⟨x, hx, rfl⟩), nodup_of_map h.2⟩
structure Nms (n : Int) (ns : List Str) : Prop where
  ln : (ns.length : Int) = n
  nd : ns.Nodup
  ok : ∀ x ∈ ns, strOk x = true
theorem names_wp {s : List Int} {n : Int} (hs : Stm s) (h0 : 0 ≤ n) (h1 : n ≤ 8) : Wp (M_l_names s n) fun r => Nms n r.1 ∧ Stm r.2 := by
  have hz := sz
  have hlen : (rngL 0 n.toNat).length = n.toNat := rngL_len _ _
  unfold M_l_names
  refine wp_next hs (by decide) (by decide) fun r t _ _ ht => wp_ite (fun _ => ?_) fun _ => ?_
  · refine wp_next ht (by decide) (by decide) fun r t hr0 hr1 ht => wp_let (wp_let (wp_grd (rg_lt (by omega) (by omega)) ?_))
    dsimp only
    have e : compM (rngL 0 n.toNat) () (fun x72 s74 => if true = true then grd ((sm x72 || sm (3 : Int)) = true) (grd (0 < (8 : Int)) ((atI PN (((x72 * (3 : Int)) + r) % (8 : Int))).bind fun x75 => some (some x75, ()))) else some ((none : Option Str), ())) = some ((rngL 0 n.toNat).filterMap (fun x => some (PN.getD ((x * 3 + r) % 8).toNat "")), ()) := compM_pure fun x _ => by
      rw [if_pos rfl, gp (by rw [show sm 3 = true from rfl, Bool.or_true]), gp (by decide)]
      have a0 := Int.emod_nonneg (x * 3 + r) (b := 8) (by decide)
      have a1 := Int.emod_lt_of_pos (x * 3 + r) (b := 8) (by decide)
      have hl : PN.length = 8 := rfl
      rw [atI_get a0 (by omega)]
      simp only [Option.bind_some]
      rw [List.getD_eq_getElem?_getD, List.getElem?_eq_getElem (by omega)]
      rfl
    have e2 : (rngL 0 n.toNat).filterMap (fun x => some (PN.getD ((x * 3 + r) % 8).toNat "")) = (List.range n.toNat).map fun i => PN.getD ((i * 3 + r.toNat) % 8) "" := by
      rw [filterMap_some]
      unfold rngL
      rw [List.map_map]
      apply List.map_congr_left
      intro i _
      show PN.getD (((0 + (i : Int)) * 3 + r) % 8).toNat "" = _
      congr 1
      omega
    rw [e2] at e
    refine wp_eq e (wp_some ⟨⟨?_, pn_nd r.toNat (by omega) n.toNat (by omega), fun x hx => ?_⟩, ht⟩)
    · show ((List.map _ _).length : Int) = n
      rw [List.length_map, List.length_range]
      omega
    · obtain ⟨i, _, rfl⟩ := List.mem_map.mp hx
      refine pn_ok _ ?_
      rw [List.getD_eq_getElem?_getD, List.getElem?_eq_getElem (by show _ < 8; omega)]
      exact List.getElem_mem _
  · refine wp_let (wp_let (wp_grd (rg_lt (by omega) (by omega)) (wp_bind (wp_for (fun p st => st.1.map dgOf = (DIG.cps.toList.take p.length).map some ∧ (∀ x ∈ st.1, strOk x = true) ∧ st.1.length = p.length ∧ Stm st.2) ⟨rfl, fun _ h => absurd h List.not_mem_nil, rfl, ht⟩ ?_ ?_))))
    · rintro p x q ⟨ys, st⟩ e ⟨hd, hok, hl, hst⟩
      have ex := rngL_split e
      have hl : ys.length = p.length := hl
      have hd : ys.map dgOf = (DIG.cps.toList.take p.length).map some := hd
      refine wp_next hst (by decide) (by decide) fun r2 t2 _ _ ht2 => wp_let (wp_next ht2 (by decide) (by decide) fun r3 t3 _ _ ht3 => wp_let (wp_next ht3 (by decide) (by decide) fun r4 t4 _ _ ht4 => ?_))
      dsimp only
      have c1 := cutS_len ("qwertyuiopasdfghjklzxcvbnm_zyx" : Str) (some (26 - r4)) (some 26)
      have c2 := cutS_len ("qwertyuiopasdfghjklzxcvbnm_zyx" : Str) (some r2) (some (r2 + (1 + r3)))
      have c3 : ("qwertyuiopasdfghjklzxcvbnm_zyx" : Str).length = 30 := by decide +kernel
      have hp10 : p.length < 8 := by omega
      refine wp_grd (by omega) (wp_let (wp_grd (by omega) (wp_grd (by decide +kernel) (wp_bind (wp_at (by omega) (by rw [dig_len]; omega) fun y hy ey => wp_grd ?_ (wp_grd ?_ (wp_grd ?_ (wp_some ⟨?_, ?_, ?_, ht4⟩))))))))
      · rw [len1]; omega
      · rw [len_app, len1]; omega
      · omega
      · show (ys ++ [_]).map dgOf = (DIG.cps.toList.take (p ++ [x]).length).map some
        rw [List.map_append, hd, List.length_append, List.length_singleton, List.take_succ, List.map_append]
        congr 1
        rw [show x.toNat = p.length by omega] at ey
        rw [ey]
        show [dgOf _] = [some y]
        congr 1
        unfold dgOf
        rw [cps_app, cps_app, List.find?_append, List.find?_append]
        have n1 : (cutS LET (some r2) (some (r2 + (1 + r3)))).cps.toList.find? isDg = none := by
          rw [List.find?_eq_none]
          intro c hc
          rw [(let_nodg c (cutS_mem hc)).1]
          decide
        rw [n1]
        show (([y] : List Nat).find? isDg).or _ = some y
        rw [List.find?_cons, (dig_dg y hy).1]
        rfl
      · intro z hz
        rcases List.mem_append.mp hz with h | h
        · exact hok z h
        · rw [List.mem_singleton.mp h]
          refine strOk_of fun c hc => ?_
          rw [cps_app, cps_app] at hc
          rcases List.mem_append.mp hc with h | h
          · rcases List.mem_append.mp h with h | h
            · exact (let_nodg c (cutS_mem h)).2
            · have h : c ∈ [y] := h
              rw [List.mem_singleton.mp h]
              exact (dig_dg y hy).2
          · exact (let_nodg c (cutS_mem h)).2
      · show (ys ++ [_]).length = (p ++ [x]).length
        simp only [List.length_append, List.length_singleton]; omega
    · rintro ⟨ys, st⟩ ⟨hd, hok, hl, hst⟩
      have hl : ys.length = (rngL 0 n.toNat).length := hl
      have hd : ys.map dgOf = (DIG.cps.toList.take (rngL 0 n.toNat).length).map some := hd
      refine wp_some ⟨⟨by show (ys.length : Int) = n; omega, nodup_of_map (f := dgOf) ?_, hok⟩, hst⟩
      show (ys.map dgOf).Nodup
      rw [hd]
      have : (DIG.cps.toList.take (rngL 0 n.toNat).length).Nodup := dig_nd.sublist (List.take_sublist _ _)
      exact this.map some fun a b h e => h (Option.some.inj e)
/-! the pool -/
theorem pool_wp {s : List Int} {n : Int} (hs : Stm s) (h0 : 1 ≤ n) (h1 : n < 1000) : Wp (M_l_pool s n) fun r => (r.1.length : Int) = n ∧ Stm r.2 := by
  have hz := sz
  unfold M_l_pool
  refine wp_next hs (by decide) (by decide) fun r t _ _ ht => wp_let (wp_grd (rg_lt (by omega) (by omega)) (wp_bind (wp_for (fun p st => st.1.length = p.length + 1 ∧ Stm st.2) ⟨rfl, ht⟩ ?_ ?_)))
  · rintro p x q ⟨ys, st⟩ e ⟨hl, hst⟩
    have ex := rngL_split e
    have hl : ys.length = p.length + 1 := hl
    refine wp_bind (wp_at (by omega) (by show x < (ys.length : Int); omega) fun y _ _ => wp_next hst (by decide) (by decide) fun r2 t2 _ _ ht2 => wp_grd (by rfl) (wp_grd (by rfl) (wp_grd (by show ys.length < sizeLine; omega) (wp_some ⟨?_, ht2⟩))))
    show (ys ++ _).length = (p ++ [x]).length + 1
    simp only [List.length_append, List.length_singleton]
    omega
  · rintro ⟨ys, st⟩ ⟨hl, hst⟩
    have hl : ys.length = (rngL 0 (n - 1).toNat).length + 1 := hl
    rw [rngL_len] at hl
    refine wp_next hst (by decide) (by decide) fun r2 t2 h20 h21 ht2 => wp_bind (wp_at h20 (by simpa using h21) fun sc hsc _ => wp_let ?_)
    have hsm : sm sc = true := by
      simp only [List.mem_cons, List.not_mem_nil, or_false] at hsc
      rcases hsc with h | h | h | h | h | h | h | h <;> subst h <;> rfl
    have e : compM ys () (fun x113 s114 => if true = true then grd ((sm x113 || sm sc) = true) (some (some (x113 * sc), ())) else some ((none : Option Int), ())) = some (ys.filterMap (fun x => some (x * sc)), ()) := compM_pure fun x _ => by
      rw [if_pos rfl, gp (by rw [hsm, Bool.or_true])]
    refine wp_eq e (wp_some ⟨?_, ht2⟩)
    show ((ys.filterMap _).length : Int) = n
    rw [filterMap_some, List.length_map]
    omega
end My
end
section
set_option Elab.async false
set_option linter.all false
set_option maxRecDepth 100000
namespace My
open PySem PySem.Spec PyProof.Rows L2 L3
/-! a walk that keeps all that it met -/
def scanL {α β : Type} (f : β → α → β) : β → List α → List β
  | c, [] => [c]
  | c, x :: xs => c :: scanL f (f c x) xs
section
variable {α β : Type} {f : β → α → β}
theorem scan_len : ∀ (xs : List α) (c : β), (scanL f c xs).length = xs.length + 1
  | [], _ => rfl
  | x :: xs, c => by unfold scanL; rw [List.length_cons, scan_len xs, List.length_cons]
theorem scan_app : ∀ (xs : List α) (c : β) (x : α), scanL f c (xs ++ [x]) = scanL f c xs ++ [f (xs.foldl f c) x]
  | [], c, x => rfl
  | y :: xs, c, x => by
    rw [List.cons_append]
    unfold scanL
    rw [scan_app xs, List.foldl_cons]
    rfl
theorem scan_last : ∀ (xs : List α) (c : β), ∃ i, scanL f c xs = i ++ [xs.foldl f c]
  | [], c => ⟨[], rfl⟩
  | x :: xs, c => by
    obtain ⟨i, e⟩ := scan_last xs (f c x)
    exact ⟨c :: i, by unfold scanL; rw [e, List.foldl_cons]; rfl⟩
theorem scan_at (xs : List α) (c : β) : atI (scanL f c xs) (-(1 : Int)) = some (xs.foldl f c) := by
  obtain ⟨i, e⟩ := scan_last (f := f) xs c
  rw [e, atI_last]
theorem scan_get : ∀ (xs : List α) (c : β) (k : Nat), k ≤ xs.length → (scanL f c xs)[k]? = some ((xs.take k).foldl f c)
  | xs, c, 0, _ => by cases xs <;> rfl
  | [], c, k + 1, h => by simp at h
  | x :: xs, c, k + 1, h => by
    unfold scanL
    rw [List.getElem?_cons_succ, scan_get xs _ k (by simpa using h), List.take_succ_cons, List.foldl_cons]
end
/-! sums -/
abbrev Tms := List (Int × Str)
def stepL (S : Str → List Int) (xs : List Int) (p : Int × Str) : List Int := xs.flatMap fun t => (S p.2).map fun v => t + p.1 * v
theorem mem_step {S : Str → List Int} {xs : List Int} {p : Int × Str} {y : Int} : y ∈ stepL S xs p ↔ ∃ t ∈ xs, ∃ v ∈ S p.2, t + p.1 * v = y := by
  unfold stepL
  simp only [List.mem_flatMap, List.mem_map]
theorem len_step {S : Str → List Int} {p : Int × Str} : ∀ xs : List Int, (stepL S xs p).length = xs.length * (S p.2).length
  | [] => by simp [stepL]
  | x :: xs => by
    have ih := len_step (S := S) (p := p) xs
    unfold stepL at ih ⊢
    rw [List.flatMap_cons, List.length_append, List.length_map, ih, List.length_cons, Nat.add_mul, Nat.one_mul, Nat.add_comm]
theorem side_len (xs : List Int) : (sideL xs).length ≤ xs.length := by
  have nd : (sideL xs).Nodup := (sideL_lt xs).imp fun h => Int.ne_of_lt h
  exact sub_len nd fun y hy => (sideL_mem xs y).mp hy
theorem side_ext {xs ys : List Int} (h : ∀ k, k ∈ xs ↔ k ∈ ys) : sideL xs = sideL ys := lt_uniq (sideL_lt _) (sideL_lt _) fun k => by rw [sideL_mem, sideL_mem, h]
theorem side_self {xs : List Int} (h : xs.Pairwise (· < ·)) : sideL xs = xs := lt_uniq (sideL_lt _) h fun k => by rw [sideL_mem]
def stepS (S : Str → List Int) (xs : List Int) (p : Int × Str) : List Int := sideL (stepL S xs p)
/-- the terms are fit: small coefficients, known sides -/
structure Fit (S : Str → List Int) (m : Nat) (box : List (Str × List Int)) (ts : Tms) : Prop where
  sm : ∀ p ∈ ts, sm p.1 = true
  bx : ∀ p ∈ ts, dget box p.2 = some (S p.2)
  ln : ∀ p ∈ ts, (S p.2).length ≤ m
theorem behind_ok {S : Str → List Int} {p : Int × Str} {xs : List Int} (hs : sm p.1 = true) (hl : xs.length * (S p.2).length < 4000) : M_layer_behind xs p.1 (S p.2) = some (stepS S xs p) := by
  have hz := sz
  have hb := sb
  have h1 : ∀ x : Int, compM (S p.2) () (fun y14 _ => (grd ((sm p.1 || sm y14) = true) (some (x + (p.1 * y14)))).bind fun z_ => some (some z_, ())) = some ((S p.2).map fun v => x + p.1 * v, ()) := fun x => by
    rw [compM_pure (g := fun v => some (x + p.1 * v)) fun v _ => by rw [gp (by rw [hs]; rfl)]; rfl, filterMap_some]
  have h2 : ∀ ys : List Int, comp2 ys (fun x12 => (compM (S p.2) () fun y14 _ => (grd ((sm p.1 || sm y14) = true) (some (x12 + (p.1 * y14)))).bind fun z_ => some (some z_, ())).bind fun r_ => some r_.1) = some (stepL S ys p) := by
    intro ys
    induction ys with
    | nil => rfl
    | cons y ys ih =>
      unfold comp2
      rw [ih]
      dsimp only
      rw [h1 y]
      simp only [Option.bind_some]
      unfold stepL
      rw [List.flatMap_cons]
  unfold M_layer_behind
  rw [h2 xs]
  simp only [Option.bind_some]
  have hl2 := len_step (S := S) (p := p) xs
  rw [gp (by omega)]
  unfold M_side_of
  rw [gp (by omega)]
  rfl
/-- bounded growth -/
theorem grow {S : Str → List Int} {m : Nat} {f : List Int → Int × Str → List Int} (hf : ∀ xs p, (f xs p).length ≤ xs.length * (S p.2).length) : ∀ (ts : Tms) (c : List Int), (∀ p ∈ ts, (S p.2).length ≤ m) → (ts.foldl f c).length ≤ c.length * m ^ ts.length
  | [], c, _ => by simp
  | p :: ts, c, h => by
    have ih := grow hf ts (f c p) fun q hq => h q (List.mem_cons_of_mem _ hq)
    rw [List.foldl_cons, List.length_cons, Nat.pow_succ]
    refine Nat.le_trans ih ?_
    rw [Nat.mul_comm (m ^ ts.length) m, ← Nat.mul_assoc]
    exact Nat.mul_le_mul_right _ (Nat.le_trans (hf c p) (Nat.mul_le_mul_left _ (h p List.mem_cons_self)))
theorem stepS_len {S : Str → List Int} (xs : List Int) (p : Int × Str) : (stepS S xs p).length ≤ xs.length * (S p.2).length := by
  unfold stepS
  rw [← len_step]
  exact side_len _
/-- m to the k-th stays small -/
structure Sml (m n : Nat) : Prop where
  pw : ∀ k ≤ n, m ^ k ≤ 300
  m3 : m ≤ 3
theorem sum_ok {S : Str → List Int} {m : Nat} {box : List (Str × List Int)} {ts : Tms} (F : Fit S m box ts) (hm : Sml m ts.length) (hn : ts.length < 1000) : M_sum_layers ts box = some (scanL (stepS S) [0] ts) := by
  have hz := sz
  apply wp_is
  unfold M_sum_layers
  refine wp_let (wp_bind (wp_for (fun p s => s = scanL (stepS S) [0] p) rfl ?_ fun s hs => wp_some hs))
  rintro p x t s e rfl
  have hx := mem_split e
  have hp : ∀ q ∈ p, q ∈ ts := fun q hq => by rw [e]; exact List.mem_append_left _ hq
  have hl : p.length < ts.length := by rw [e]; simp
  have g := grow (S := S) (m := m) (fun xs p => stepS_len xs p) p [0] fun q hq => F.ln q (hp q hq)
  have g2 := hm.pw p.length (by omega)
  have g3 := F.ln x hx
  have g4 := hm.m3
  simp only [List.length_singleton, Nat.one_mul] at g
  refine wp_eq (scan_at p [0]) (wp_eq (F.bx x hx) (wp_eq (behind_ok (F.sm x hx) ?_) (wp_grd ?_ (wp_some ?_))))
  · exact Nat.lt_of_le_of_lt (Nat.mul_le_mul (Nat.le_trans g g2) (Nat.le_trans g3 g4)) (by decide)
  · rw [scan_len]; omega
  · rw [scan_app]
theorem sums_ok {S : Str → List Int} {p : Int × Str} {box : List (Str × List Int)} {xs : List Int} (hs : sm p.1 = true) (hb : dget box p.2 = some (S p.2)) (hl : xs.length * (S p.2).length < 4000) : M_l_sums xs p box = some (stepL S xs p) := by
  have hz := sz
  apply wp_is
  unfold M_l_sums
  refine wp_let (wp_bind (wp_for (fun q s => s = stepL S q p) rfl ?_ fun s hs => wp_some hs))
  rintro q x t s e rfl
  have hq : q.length < xs.length := by rw [e]; simp
  refine wp_eq hb (wp_bind (wp_for (fun r s => s = stepL S q p ++ r.map fun v => x + p.1 * v) (by simp) ?_ fun s hs => wp_some ?_))
  · rintro r y t2 s2 e2 rfl
    have hr : r.length < (S p.2).length := by rw [e2]; simp
    refine wp_grd (by rw [hs]; rfl) (wp_grd ?_ (wp_some ?_))
    · rw [List.length_append, len_step, List.length_map]
      have : q.length * (S p.2).length ≤ xs.length * (S p.2).length := Nat.mul_le_mul_right _ (by omega)
      have : (S p.2).length ≤ xs.length * (S p.2).length := Nat.le_mul_of_pos_left _ (by omega)
      omega
    · rw [List.map_append, List.append_assoc]; rfl
  · rw [hs]
    unfold stepL
    rw [List.flatMap_append]
    simp
theorem heads_ok {S : Str → List Int} {m : Nat} {box : List (Str × List Int)} {ts : Tms} (F : Fit S m box ts) (hm : Sml m ts.length) (hn : ts.length < 1000) : M_l_heads ts box = some (scanL (stepL S) [0] ts) := by
  have hz := sz
  apply wp_is
  unfold M_l_heads
  refine wp_let (wp_bind (wp_for (fun p s => s = scanL (stepL S) [0] p) rfl ?_ fun s hs => wp_some hs))
  rintro p x t s e rfl
  have hx := mem_split e
  have hp : ∀ q ∈ p, q ∈ ts := fun q hq => by rw [e]; exact List.mem_append_left _ hq
  have hl : p.length < ts.length := by rw [e]; simp
  have g := grow (S := S) (m := m) (f := stepL S) (fun xs p => Nat.le_of_eq (len_step xs)) p [0] fun q hq => F.ln q (hp q hq)
  have g2 := hm.pw p.length (by omega)
  have g3 := F.ln x hx
  have g4 := hm.m3
  simp only [List.length_singleton, Nat.one_mul] at g
  refine wp_eq (scan_at p [0]) (wp_eq (sums_ok (F.sm x hx) (F.bx x hx) ?_) (wp_grd ?_ (wp_some ?_)))
  · exact Nat.lt_of_le_of_lt (Nat.mul_le_mul (Nat.le_trans g g2) (Nat.le_trans g3 g4)) (by decide)
  · rw [scan_len]; omega
  · rw [scan_app]
/-- the same sides, met by sets -/
theorem side_scan {S : Str → List Int} : ∀ (ts : Tms) (c d : List Int), sideL c = sideL d → sideL (ts.foldl (stepS S) c) = sideL (ts.foldl (stepL S) d)
  | [], c, d, h => h
  | p :: ts, c, d, h => by
    rw [List.foldl_cons, List.foldl_cons]
    refine side_scan ts _ _ (side_ext fun k => ?_)
    have hm : ∀ t, t ∈ c ↔ t ∈ d := fun t => by rw [← sideL_mem c t, h, sideL_mem]
    unfold stepS
    rw [sideL_mem, mem_step, mem_step]
    constructor
    · rintro ⟨t, ht, r⟩; exact ⟨t, (hm t).mp ht, r⟩
    · rintro ⟨t, ht, r⟩; exact ⟨t, (hm t).mpr ht, r⟩
theorem scanS_sorted {S : Str → List Int} : ∀ (ts : Tms) (c : List Int), c.Pairwise (· < ·) → (ts.foldl (stepS S) c).Pairwise (· < ·)
  | [], c, h => h
  | p :: ts, c, h => by
    rw [List.foldl_cons]
    exact scanS_sorted ts _ (sideL_lt _)
end My
end
section
set_option Elab.async false
set_option linter.all false
set_option maxRecDepth 100000
namespace My
open PySem PySem.Spec PyProof.Rows L2 L3
theorem at_zero {α : Type} {x : α} {r : List α} : atI (x :: r) (0 : Int) = some x := by
  rw [atI_get (by decide) (by simp)]
  rfl
/-! within the bounds -/
def wi (lo hi : Option Int) (t : Int) : Bool := (match lo with | none => true | some l => decide (l ≤ t)) && (match hi with | none => true | some h => decide (t ≤ h))
theorem within_ok (t : Int) (lo hi : Option Int) : M_within_bounds t lo hi = some (wi lo hi t) := by
  unfold M_within_bounds wi
  cases lo with
  | none => cases hi <;> rfl
  | some l =>
    by_cases h : l ≤ t
    · cases hi <;> simp [h]
    · cases hi <;> simp [h]
theorem l_within_ok (t : Int) (lo hi : Option Int) : M_l_within t lo hi = some (wi lo hi t) := by
  unfold M_l_within wi
  cases lo with
  | none => cases hi <;> rfl
  | some l =>
    by_cases h : l ≤ t
    · cases hi <;> simp [h]
    · cases hi <;> simp [h]
theorem leads_ok (t : Int) (us : List Int) (lo hi : Option Int) : M_l_leads t us lo hi = some (us.any fun u => wi lo hi (t + u)) := by
  apply wp_is
  unfold M_l_leads
  refine wp_bind (wp_forL (fun p _ => (p.any fun u => wi lo hi (t + u)) = false) rfl ?_ ?_)
  · intro p x q s e hI
    rw [l_within_ok]
    simp only [Option.bind_some]
    by_cases h : wi lo hi (t + x) = true
    · rw [if_pos h]
      refine ⟨_, rfl, _, rfl, ?_⟩
      show true = _
      rw [e, List.any_append, List.any_cons, h]
      simp
    · rw [if_neg h]
      refine wp_some ?_
      show ((p ++ [x]).any _) = false
      rw [List.any_append, hI]
      simpa using h
  · intro s hI
    exact wp_some (by rw [hI])
theorem before_ok {c : Int} {side foll : List Int} (hs : sm c = true) (hf : foll.length < 4000) (xs : List Int) (hl : xs.length < 4000) : M_layer_before xs c side foll = some (xs.filter fun t => side.any fun v => decide (t + c * v ∈ foll)) := by
  have hz := sz
  have hb := sb
  apply wp_is
  unfold M_layer_before
  refine wp_grd (by omega) (wp_let (wp_let (wp_bind (wp_for (fun p s => s = p.filter fun t => side.any fun v => decide (t + c * v ∈ foll)) rfl ?_ fun s h => wp_some h))))
  rintro p x q s e rfl
  have hp : p.length < xs.length := by rw [e]; simp
  have hpf := List.length_filter_le (fun t => side.any fun v => decide (t + c * v ∈ foll)) p
  refine wp_bind (wp_forL (fun r s => s = (p.filter fun t => side.any fun v => decide (t + c * v ∈ foll)) ∧ (r.any fun v => decide (x + c * v ∈ foll)) = false) ⟨rfl, rfl⟩ ?_ ?_)
  · rintro r y q2 s e2 ⟨rfl, hI⟩
    refine wp_grd (by rw [hs]; rfl) ?_
    by_cases h : x + c * y ∈ foll
    · rw [if_pos (by simpa using h), gp (by omega)]
      refine ⟨_, rfl, _, rfl, ?_⟩
      rw [List.filter_append]
      congr 1
      have : (side.any fun v => decide (x + c * v ∈ foll)) = true := by
        rw [e2, List.any_append, List.any_cons]
        simp [h]
      simp [this]
    · rw [if_neg (by simpa using h)]
      refine wp_some ⟨rfl, ?_⟩
      rw [List.any_append, hI]
      simpa using h
  · rintro s ⟨rfl, hI⟩
    refine wp_some ?_
    rw [List.filter_append]
    simp [hI]
/-! what leads to a good end -/
def tlP (S : Str → List Int) (ts : Tms) : List Int := ts.foldr (fun p us => stepL S us p) [0]
theorem tl_len {S : Str → List Int} {m : Nat} : ∀ ts : Tms, (∀ p ∈ ts, (S p.2).length ≤ m) → (tlP S ts).length ≤ m ^ ts.length
  | [], _ => by simp [tlP]
  | p :: ts, h => by
    have ih := tl_len ts fun q hq => h q (List.mem_cons_of_mem _ hq)
    show (stepL S (tlP S ts) p).length ≤ _
    rw [len_step, List.length_cons, Nat.pow_succ]
    exact Nat.mul_le_mul ih (h p List.mem_cons_self)
/-- all tails, the whole first -/
def tlsP (S : Str → List Int) : Tms → List (List Int)
  | [] => [[0]]
  | p :: ts => stepL S (tlP S ts) p :: tlsP S ts
theorem tls_head {S : Str → List Int} : ∀ ts : Tms, ∃ r, tlsP S ts = tlP S ts :: r
  | [] => ⟨[], rfl⟩
  | p :: ts => ⟨tlsP S ts, rfl⟩
theorem tls_len {S : Str → List Int} : ∀ ts : Tms, (tlsP S ts).length = ts.length + 1
  | [] => rfl
  | p :: ts => by unfold tlsP; rw [List.length_cons, tls_len ts, List.length_cons]
theorem tls_get {S : Str → List Int} : ∀ (ts : Tms) (k : Nat), k ≤ ts.length → (tlsP S ts)[k]? = some (tlP S (ts.drop k))
  | ts, 0, _ => by
    obtain ⟨r, e⟩ := tls_head (S := S) ts
    rw [e]; rfl
  | [], k + 1, h => by simp at h
  | p :: ts, k + 1, h => by
    unfold tlsP
    rw [List.getElem?_cons_succ, tls_get ts k (by simpa using h)]
    rfl
theorem tails_ok {S : Str → List Int} {m : Nat} {box : List (Str × List Int)} {ts : Tms} (F : Fit S m box ts) (hm : Sml m ts.length) (hn : ts.length < 1000) : M_l_tails ts box = some (tlsP S ts) := by
  have hz := sz
  apply wp_is
  unfold M_l_tails
  refine wp_let (wp_grd (rg_lt (by omega) (by omega)) (wp_bind (wp_for (fun p s => s = tlsP S (ts.drop (ts.length - p.length))) ?_ ?_ fun s hs => wp_some ?_)))
  · show [[0]] = tlsP S (ts.drop (ts.length - 0))
    rw [Nat.sub_zero, List.drop_length]
    rfl
  · rintro p x t s e rfl
    have ex := rngL_split e
    have hpl : p.length < ts.length := by simpa using ex.2
    obtain ⟨r, er⟩ := tls_head (S := S) (ts.drop (ts.length - p.length))
    have hk : ts.length - (p.length + 1) < ts.length := by omega
    have hd : ts.drop (ts.length - (p.length + 1)) = ts[ts.length - (p.length + 1)] :: ts.drop (ts.length - p.length) := by
      rw [List.drop_eq_getElem_cons hk]
      congr 2
      omega
    have hmem : ts[ts.length - (p.length + 1)] ∈ ts := List.getElem_mem _
    have hat : atI ts ((ts.length : Int) - 1 - x) = some ts[ts.length - (p.length + 1)] := by
      rw [atI_get (by omega) (by omega)]
      congr 2
      omega
    have tl := tl_len (S := S) (m := m) (ts.drop (ts.length - p.length)) fun q hq => F.ln q (List.mem_of_mem_drop hq)
    have l2 : (ts.drop (ts.length - p.length)).length = p.length := by rw [List.length_drop]; omega
    rw [l2] at tl
    have g2 := hm.pw p.length (by omega)
    have g3 := F.ln _ hmem
    have g4 := hm.m3
    have hl3 := tls_len (S := S) (ts.drop (ts.length - p.length))
    rw [l2] at hl3
    refine wp_eq (a := tlP S (ts.drop (ts.length - p.length))) (by rw [er]; exact at_zero) (wp_eq hat (wp_eq (sums_ok (F.sm _ hmem) (F.bx _ hmem) ?_) (wp_grd ?_ (wp_let (wp_some ?_)))))
    · exact Nat.lt_of_le_of_lt (Nat.mul_le_mul (Nat.le_trans tl g2) (Nat.le_trans g3 g4)) (by decide)
    · rw [List.length_singleton]; omega
    · rw [List.length_append, List.length_singleton, hd]
      rfl
  · rw [hs, rngL_len]
    have : ts.length - (ts.length : Int).toNat = 0 := by omega
    rw [this, List.drop_zero]
/-- the numbers of layer k that lead on -/
def lvP (S : Str → List Int) (lo hi : Option Int) (ts : Tms) (k : Nat) : List Int := ((ts.take k).foldl (stepS S) [0]).filter fun t => (tlP S (ts.drop k)).any fun u => wi lo hi (t + u)
theorem lv_len {S : Str → List Int} {m : Nat} {lo hi : Option Int} {ts : Tms} {k : Nat} (h : ∀ p ∈ ts, (S p.2).length ≤ m) (hk : k ≤ ts.length) : (lvP S lo hi ts k).length ≤ m ^ k ∧ ((ts.take k).foldl (stepS S) [0]).length ≤ m ^ k := by
  have g := grow (S := S) (m := m) (fun xs p => stepS_len xs p) (ts.take k) [0] fun q hq => h q (List.mem_of_mem_take hq)
  rw [List.length_take, Nat.min_eq_left hk, List.length_singleton, Nat.one_mul] at g
  exact ⟨Nat.le_trans (List.length_filter_le _ _) g, g⟩
theorem lv_step {S : Str → List Int} {lo hi : Option Int} {ts : Tms} {k : Nat} (hk : k < ts.length) : ((ts.take k).foldl (stepS S) [0]).filter (fun t => (S ts[k].2).any fun v => decide (t + ts[k].1 * v ∈ lvP S lo hi ts (k + 1))) = lvP S lo hi ts k := by
  unfold lvP
  apply List.filter_congr
  intro t ht
  have hd : ts.drop k = ts[k] :: ts.drop (k + 1) := List.drop_eq_getElem_cons hk
  have htk : ts.take (k + 1) = ts.take k ++ [ts[k]] := by rw [List.take_succ_eq_append_getElem hk]
  rw [Bool.eq_iff_iff, List.any_eq_true, List.any_eq_true, hd]
  constructor
  · rintro ⟨v, hv, h⟩
    rw [decide_eq_true_eq, List.mem_filter, List.any_eq_true] at h
    obtain ⟨_, u, hu, hw⟩ := h
    refine ⟨u + ts[k].1 * v, mem_step.mpr ⟨u, hu, v, hv, rfl⟩, ?_⟩
    rw [← hw]
    congr 1
    omega
  · rintro ⟨u, hu, hw⟩
    obtain ⟨u', hu', v, hv, e⟩ := mem_step.mp (show u ∈ stepL S (tlP S (ts.drop (k + 1))) ts[k] from hu)
    refine ⟨v, hv, ?_⟩
    rw [decide_eq_true_eq, List.mem_filter, List.any_eq_true]
    refine ⟨?_, u', hu', ?_⟩
    · rw [htk, List.foldl_append]
      show _ ∈ stepS S _ ts[k]
      unfold stepS
      rw [sideL_mem, mem_step]
      exact ⟨t, ht, v, hv, rfl⟩
    · rw [← hw, ← e]
      congr 1
      omega
theorem live_ok {S : Str → List Int} {m : Nat} {box : List (Str × List Int)} {ts : Tms} {lo hi : Option Int} (F : Fit S m box ts) (hm : Sml m ts.length) (hn : ts.length < 1000) : M_live_layers ts box lo hi = some ((List.range (ts.length + 1)).map (lvP S lo hi ts)) := by
  have hz := sz
  apply wp_is
  unfold M_live_layers
  refine wp_eq (sum_ok F hm hn) (wp_let (wp_eq (scan_at ts [0]) ?_))
  have e1 : compM (ts.foldl (stepS S) [0]) () (fun x55 s57 => (M_within_bounds x55 lo hi).bind fun r59 => if r59 = true then some (some x55, ()) else some ((none : Option Int), ())) = some ((ts.foldl (stepS S) [0]).filterMap (fun t => if wi lo hi t = true then some t else none), ()) := compM_pure fun x _ => by
    rw [within_ok]
    simp only [Option.bind_some]
    split <;> rfl
  have e2 : (ts.foldl (stepS S) [0]).filterMap (fun t => if wi lo hi t = true then some t else none) = lvP S lo hi ts ts.length := by
    unfold lvP
    rw [List.take_length, List.drop_length]
    generalize ts.foldl (stepS S) [0] = l
    induction l with
    | nil => rfl
    | cons a l ih =>
      rw [List.filterMap_cons, List.filter_cons, ← ih]
      show _ = if (([0] : List Int).any fun u => wi lo hi (a + u)) = true then _ else _
      have : (([0] : List Int).any fun u => wi lo hi (a + u)) = wi lo hi a := by simp
      rw [this]
      by_cases h : wi lo hi a = true
      · rw [if_pos h, if_pos h]
      · rw [if_neg h, if_neg h]
  rw [e2] at e1
  refine wp_eq e1 (wp_let (wp_grd ?_ (wp_bind (wp_for (fun p s => s = (List.range (p.length + 1)).map fun i => lvP S lo hi ts (ts.length - i)) rfl ?_ ?_))))
  · unfold rg2
    simp
    omega
  · rintro p x t s e rfl
    have hx : x = (ts.length : Int) - 1 - p.length ∧ p.length < ts.length := by
      have hl := congrArg List.length e
      rw [rngD_len, List.length_append, List.length_cons] at hl
      have e' := congrArg (fun l => l[p.length]?) e
      simp only [List.getElem?_append_right (Nat.le_refl _), Nat.sub_self, List.getElem?_cons_zero] at e'
      unfold rngD at e'
      rw [List.getElem?_map, List.getElem?_range (by omega)] at e'
      simp only [Option.map_some, Option.some.injEq] at e'
      exact ⟨e'.symm, by omega⟩
    obtain ⟨hx, hp⟩ := hx
    have hk : ts.length - 1 - p.length < ts.length := by omega
    have hmem : ts[ts.length - 1 - p.length] ∈ ts := List.getElem_mem _
    have a1 : atI ts x = some ts[ts.length - 1 - p.length] := by
      rw [atI_get (by omega) (by omega)]
      congr 2
      omega
    have a2 : atI (scanL (stepS S) [0] ts) x = some ((ts.take (ts.length - 1 - p.length)).foldl (stepS S) [0]) := by
      rw [atI_get (by omega) (by rw [scan_len]; omega)]
      rw [← List.getElem?_eq_getElem, show x.toNat = ts.length - 1 - p.length by omega]
      exact scan_get ts [0] _ (by omega)
    have a3 : atI ((List.range (p.length + 1)).map fun i => lvP S lo hi ts (ts.length - i)) (-(1 : Int)) = some (lvP S lo hi ts (ts.length - p.length)) := by
      rw [List.range_succ, List.map_append]
      exact atI_last
    have l1 := lv_len (S := S) (m := m) (lo := lo) (hi := hi) (ts := ts) (k := ts.length - p.length) F.ln (by omega)
    have l2 := lv_len (S := S) (m := m) (lo := lo) (hi := hi) (ts := ts) (k := ts.length - 1 - p.length) F.ln (by omega)
    have g1 := hm.pw (ts.length - p.length) (by omega)
    have g2 := hm.pw (ts.length - 1 - p.length) (by omega)
    have b := before_ok (c := ts[ts.length - 1 - p.length].1) (side := S ts[ts.length - 1 - p.length].2) (foll := lvP S lo hi ts (ts.length - p.length)) (F.sm _ hmem) (by omega) ((ts.take (ts.length - 1 - p.length)).foldl (stepS S) [0]) (by omega)
    have st := lv_step (S := S) (lo := lo) (hi := hi) hk
    rw [show ts.length - 1 - p.length + 1 = ts.length - p.length by omega] at st
    rw [st] at b
    refine wp_eq a1 (wp_let (wp_eq a2 (wp_eq (F.bx _ hmem) (wp_eq a3 (wp_eq b (wp_grd ?_ (wp_some ?_)))))))
    · rw [List.length_map, List.length_range]; omega
    · rw [List.length_append, List.length_singleton, List.range_succ (n := p.length + 1), List.map_append]
      congr 3
      omega
  · rintro s rfl
    refine wp_some ?_
    rw [rngD_len, show ((ts.length : Int) - 1 - -1).toNat = ts.length by omega]
    apply List.ext_getElem?
    intro i
    by_cases hi : i < ts.length + 1
    · rw [List.getElem?_reverse (by simpa using hi), List.getElem?_map, List.getElem?_map, List.length_map, List.length_range, List.getElem?_range (by omega), List.getElem?_range hi]
      simp only [Option.map_some]
      congr 2
      omega
    · rw [List.getElem?_eq_none (by simp; omega), List.getElem?_eq_none (by simp; omega)]
end My
end
section
set_option Elab.async false
set_option linter.all false
set_option maxRecDepth 100000
namespace My
open PySem PySem.Spec PyProof.Rows L2 L3
abbrev Sds := List (Str × List Int)
theorem cut_le {α : Type} (xs : List α) {k : Int} (h : 0 ≤ k) : (cutL xs none (some k)).length ≤ k.toNat := by
  unfold cutL
  have e1 : HT.sIx xs.length xs.length (some k) = min k.toNat xs.length := by
    unfold HT.sIx; simp only; rw [if_neg (by omega)]
  have e3 : HT.sIx xs.length 0 none = 0 := rfl
  rw [e1, e3, List.length_take]
  omega
theorem domains_wp {s : List Int} {ns : List Str} {pool : List Int} {most : Int} (hs : Stm s) (hn : ns.length < 1000) (h0 : 1 ≤ pool.length) (h1 : pool.length ≤ 1000) (hm : 1 ≤ most) : Wp (M_l_domains s ns pool most) fun r => r.1.map Prod.fst = ns ∧ (∀ p ∈ r.1, p.2.length ≤ most.toNat) ∧ Stm r.2 := by
  have hz := sz
  unfold M_l_domains
  refine wp_let (wp_bind (wp_for (fun p st => st.1.map Prod.fst = p ∧ (∀ q ∈ st.1, q.2.length ≤ most.toNat) ∧ Stm st.2) ⟨rfl, fun _ h => absurd h List.not_mem_nil, hs⟩ ?_ fun st h => wp_some h))
  rintro p x t ⟨ds, st⟩ e ⟨hd, hl, hst⟩
  dsimp only at hd hl hst ⊢
  have hp : p.length < ns.length := by rw [e]; simp
  have hdl : ds.length = p.length := by rw [← hd, List.length_map]
  refine wp_bind (wp_compF (fun s => Stm s) (fun _ => True) hst ?_ ?_)
  · intro y _ s hs
    refine wp_next hs (by decide) (by decide) fun r t _ _ ht => wp_ite (fun _ => wp_some ⟨fun _ _ => trivial, ht⟩) fun _ => wp_some ⟨fun _ _ => trivial, ht⟩
  · intro ys s2 _ _ hs2
    have cl := cut_le ys (k := most) (by omega)
    dsimp only
    refine wp_let (wp_then (P := fun z => z.1.length ≤ most.toNat ∧ Stm z.2) ?_ ?_)
    · refine wp_ite (fun _ => ?_) fun _ => wp_some ⟨cl, hs2⟩
      exact wp_next hs2 (by omega) (by omega) fun r t h0 h1 ht => wp_bind (wp_at h0 h1 fun y _ _ => wp_let (wp_some ⟨by show 1 ≤ _; omega, ht⟩))
    · rintro ⟨sd, s3⟩ ⟨hsl, hs3⟩
      dsimp only at hsl hs3 ⊢
      refine wp_next hs3 (by decide) (by decide) fun r t h0 h1 ht => ?_
      dsimp only
      refine wp_grd (by rw [Bool.or_eq_true]; right; split <;> rfl) (wp_grd (by omega) (wp_some ⟨?_, fun q hq => ?_, ht⟩))
      · rw [List.map_append, hd]; rfl
      · rcases List.mem_append.mp hq with h | h
        · exact hl q h
        · rw [List.mem_singleton.mp h]
          exact Nat.le_trans (cutL_len _ _ _) hsl
theorem sides_ok {ds : Sds} (nd : (ds.map Prod.fst).Nodup) (hl : ds.length < 1000) : M_l_sides ds = some ds := by
  have hz := sz
  apply wp_is
  unfold M_l_sides
  refine wp_let (wp_bind (wp_for (fun p s => s = p) rfl ?_ fun s h => wp_some h))
  rintro p x t s e rfl
  have hp : s.length < ds.length := by rw [e]; simp
  refine wp_grd (by omega) (wp_some ?_)
  rw [dput_new]
  intro h
  rw [e, List.map_append, List.map_cons] at nd
  exact (List.nodup_append.mp nd).2.2 _ h _ List.mem_cons_self rfl
theorem choice_wp {s : List Int} {ts : Tms} {box : Sds} {pool : List Int} (hs : Stm s) (hm : ∀ p ∈ ts, sm p.1 = true) (hb : ∀ p ∈ ts, p.2 ∈ keys box) (hl : ∀ p ∈ box, p.2.length ≤ 1000) (h0 : 1 ≤ pool.length) (h1 : pool.length ≤ 1000) : Wp (M_l_choice s ts box pool) fun r => Stm r.2 := by
  unfold M_l_choice
  refine wp_let (wp_bind (wp_for (fun p st => Stm st.2) hs ?_ fun st h => wp_some h))
  rintro p x t ⟨n, st⟩ e hst
  have hx := mem_split e
  refine wp_bind (wp_dget (hb x hx) fun sd esd => wp_let (wp_then (P := fun z => 1 ≤ z.length ∧ z.length ≤ 1000) ?_ fun z hz => ?_))
  · refine wp_ite (fun _ => wp_let (wp_some ⟨h0, h1⟩)) fun h => wp_some ⟨?_, hl _ (dget_mem esd)⟩
    simp only [decide_eq_true_eq] at h
    omega
  · exact wp_next hst (by omega) (by omega) fun r t h0 h1 ht => wp_bind (wp_at h0 h1 fun y _ _ => wp_grd (by rw [hm x hx]; rfl) (wp_let (wp_some ht)))
theorem bounds_wp {s : List Int} {n : Int} (hs : Stm s) : Wp (M_l_bounds s n) fun r => (∃ lo hi, r.1 = [lo, hi]) ∧ Stm r.2 := by
  unfold M_l_bounds
  refine wp_next hs (by decide) (by decide) fun r t _ _ ht => wp_let (wp_next ht (by decide) (by decide) fun r2 t2 _ _ ht2 => wp_let (wp_next ht2 (by decide) (by decide) fun r3 t3 _ _ ht3 => wp_let ?_))
  repeat (refine wp_ite (fun _ => ?_) fun _ => ?_; first | exact wp_some ⟨⟨_, _, rfl⟩, ht3⟩ | exact wp_grd (by rfl) (wp_grd (by rfl) (wp_some ⟨⟨_, _, rfl⟩, ht3⟩)))
  exact wp_some ⟨⟨_, _, rfl⟩, ht3⟩
theorem is_side_ok {xs : List Int} (h : xs.Pairwise (· < ·)) (hl : xs.length < 100000) : M_l_is_side xs = some true := by
  have e1 : compM xs () (fun x205 s207 => if true = true then (M_l_is_integer x205).bind fun r209 => some (some r209, ()) else some ((none : Option Bool), ())) = some (xs.filterMap (fun _ => some true), ()) := compM_pure fun x _ => by
    unfold M_l_is_integer
    rfl
  have e2 : compM (rngL 0 ((xs.length : Int) - (1 : Int)).toNat) () (fun x214 s217 => if true = true then (atI xs x214).bind fun x219 => (atI xs (x214 + (1 : Int))).bind fun x220 => some (some (decide (x219 < x220)), ()) else some ((none : Option Bool), ())) = some ((rngL 0 ((xs.length : Int) - (1 : Int)).toNat).filterMap (fun _ => some true), ()) := compM_pure fun x hx => by
    have hx := rngL_mem.mp hx
    rw [if_pos rfl, atI_get (by omega) (by omega), atI_get (by omega) (by omega)]
    simp only [Option.bind_some]
    rw [decide_eq_true]
    exact List.pairwise_iff_getElem.mp h _ _ _ _ (by omega)
  rw [filterMap_some] at e1 e2
  apply wp_is
  unfold M_l_is_side
  rw [if_neg (by decide)]
  refine wp_bind (wp_eq e1 (wp_some ?_))
  dsimp only
  rw [if_neg (by simp)]
  refine wp_grd (rg_lt (by omega) (by omega)) (wp_eq e2 (wp_some ?_))
  simp
theorem due_ok {L : List (List Int)} (h : ∀ x ∈ L, x.Pairwise (· < ·) ∧ x.length < 5000) (hl : L.length < 1000) : Wp (M_l_layers_due L L) fun r => r.1 = true := by
  have hz := sz
  unfold M_l_layers_due
  rw [if_neg (by simp)]
  refine wp_grd (rg_lt (by omega) (by omega)) (wp_bind (wp_forL (fun p s => s.length = L.length ∧ ∀ j, p.length ≤ j → s[j]? = L[j]?) ⟨rfl, fun _ _ => rfl⟩ ?_ fun s _ => wp_some rfl))
  rintro p x t s e ⟨hs, hk⟩
  have ex := rngL_split e
  have hp : p.length < L.length := by omega
  have hx : x.toNat = p.length := by omega
  have a1 : atI s x = some L[p.length] := by
    rw [atI_get (by omega) (by omega), ← List.getElem?_eq_getElem, hx, hk _ (Nat.le_refl _), List.getElem?_eq_getElem hp]
  have a2 : atI L x = some L[p.length] := by
    rw [atI_get (by omega) (by omega)]
    simp only [hx]
  have hm := h L[p.length] (List.getElem_mem _)
  have ix : ixN s.length x = some p.length := by
    unfold ixN
    rw [if_pos (by omega), if_pos (by omega), hx]
  rw [a1, a2, ix]
  simp only [Option.bind_some]
  rw [is_side_ok hm.1 (by omega)]
  simp only [Option.bind_some, Bool.not_true, decide_true]
  rw [if_neg (by decide)]
  simp only [Option.bind_some]
  rw [if_neg (by decide)]
  have gd : s.getD p.length [] = L[p.length] := by
    rw [List.getD_eq_getElem?_getD, hk _ (Nat.le_refl _), List.getElem?_eq_getElem hp]
    rfl
  rw [gd]
  refine wp_grd (by omega) (wp_some ⟨by rw [List.length_set]; exact hs, fun j hj => ?_⟩)
  rw [List.length_append, List.length_singleton] at hj
  rw [List.getElem?_set_ne (by omega)]
  exact hk j (by omega)
end My
end
section
set_option Elab.async false
set_option linter.all false
set_option maxRecDepth 100000
namespace My
open PySem PySem.Spec PyProof.Rows L2 L3
theorem l_live_ok {S : Str → List Int} {m : Nat} {box : Sds} {ts : Tms} {lo hi : Option Int} {b : Bool} (F : Fit S m box ts) (hm : Sml m ts.length) (hn : ts.length < 1000) : M_l_live ts box [lo, hi] b = some ((List.range (ts.length + 1)).map (lvP S lo hi ts)) := by
  have h0 : atI [lo, hi] (0 : Int) = some lo := rfl
  have h1 : atI [lo, hi] (1 : Int) = some hi := rfl
  unfold M_l_live
  rw [h0, h1]
  simp only [Option.bind_some]
  cases b <;> cases lo <;> cases hi <;> simp [live_ok F hm hn]
theorem okts {ts : Tms} (h : ∀ p ∈ ts, strOk p.2 = true) : okG (dgL (dgT2 dgInt dgStr)) ts ts = true := by
  have : (ts.all fun x => (true && strOk x.2)) = true := by
    rw [List.all_eq_true]
    intro p hp
    rw [h p hp]; rfl
  show ((ts.all fun x => (true && strOk x.2)) && (ts.all fun x => (true && strOk x.2))) = true
  rw [this]; rfl
theorem okns {ns : List Str} (h : ∀ p ∈ ns, strOk p = true) : okG (dgL dgStr) ns ns = true := by
  have : (ns.all fun x => strOk x) = true := by
    rw [List.all_eq_true]
    exact h
  show ((ns.all fun x => strOk x) && (ns.all fun x => strOk x)) = true
  rw [this]; rfl
theorem rot_eq {α : Type} {xs : List α} {i : Int} (h0 : 0 ≤ i) (h1 : i ≤ xs.length) : cutL xs (some i) none ++ cutL xs none (some i) = xs.drop i.toNat ++ xs.take i.toNat := by
  unfold cutL
  have e1 : HT.sIx xs.length xs.length (some i) = i.toNat := by
    unfold HT.sIx; simp only; rw [if_neg (by omega)]; omega
  have e2 : HT.sIx xs.length 0 (some i) = i.toNat := by
    unfold HT.sIx; simp only; rw [if_neg (by omega)]; omega
  have e3 : HT.sIx xs.length 0 none = 0 := rfl
  have e4 : HT.sIx xs.length xs.length none = xs.length := rfl
  rw [e1, e2, e3, e4, List.drop_zero, Nat.sub_zero]
  congr 1
  rw [List.take_of_length_le]
  rw [List.length_drop]
  omega
theorem sml3 : ∀ n : Nat, n ≤ 4 → Sml 3 n := fun n hn => ⟨fun k hk => by
  have : ∀ k, k ≤ 4 → 3 ^ k ≤ 300 := by decide
  exact this k (by omega), by decide⟩
theorem sml2 : ∀ n : Nat, n ≤ 8 → Sml 2 n := fun n hn => ⟨fun k hk => by
  have : ∀ k, k ≤ 8 → 2 ^ k ≤ 300 := by decide
  exact this k (by omega), by decide⟩
/-- the law's own layers are the program's -/
theorem layers_eq {S : Str → List Int} (ts : Tms) : (scanL (stepL S) [0] ts).map sideL = scanL (stepS S) [0] ts := by
  apply List.ext_getElem?
  intro k
  rw [List.getElem?_map]
  by_cases hk : k ≤ ts.length
  · rw [scan_get _ _ k hk, scan_get _ _ k hk]
    simp only [Option.map_some, Option.some.injEq]
    rw [← side_scan (S := S) (ts.take k) [0] [0] rfl]
    exact side_self (scanS_sorted _ _ (List.pairwise_singleton _ _))
  · rw [List.getElem?_eq_none (by rw [scan_len]; omega), List.getElem?_eq_none (by rw [scan_len]; omega)]
    rfl
theorem law_ok (script : List Int) : M_law script = some true := by
  have hz := sz
  have hb := sb
  apply wp_is
  unfold M_law
  refine wp_stream (by decide) fun s0 hs0 => wp_let (wp_next hs0 (by decide) (by decide) fun r1 s1 h10 h11 hs1 => wp_grd (by decide) (wp_let (wp_let (wp_next hs1 (by decide) (by decide) fun r2 s2 _ _ hs2 => wp_then (P := fun z => 0 ≤ z.1 ∧ z.1 ≤ 8 ∧ 1 ≤ z.2.1 ∧ Sml z.2.1.toNat z.1.toNat ∧ Stm z.2.2) ?_ ?_))))
  · refine wp_ite (fun _ => ?_) fun _ => wp_some ⟨?_, ?_, by show (1:Int) ≤ 3; decide, sml3 _ ?_, hs2⟩
    · exact wp_next hs2 (by decide) (by decide) fun r3 s3 h30 h31 hs3 => wp_let (wp_let (wp_some ⟨by dsimp only; omega, by dsimp only; omega, by show (1:Int) ≤ 2; decide, sml2 _ (by dsimp only; omega), hs3⟩))
    · exact Int.emod_nonneg _ (by decide)
    · have := Int.emod_lt_of_pos (r1 + 3) (b := 5) (by decide)
      dsimp only
      omega
    · have := Int.emod_lt_of_pos (r1 + 3) (b := 5) (by decide)
      dsimp only
      omega
  rintro ⟨size, most, s3⟩ ⟨hsz0, hsz1, hmost, hsml, hs3⟩
  dsimp only at hsz0 hsz1 hmost hsml hs3 ⊢
  refine wp_next hs3 (by decide) (by decide) fun r4 s4 h40 h41 hs4 => wp_then (pool_wp hs4 (by dsimp only; omega) (by dsimp only; omega)) ?_
  rintro ⟨pool0, s5⟩ ⟨hpl, hs5⟩
  dsimp only at hpl hs5 ⊢
  refine wp_let (wp_next hs5 (by decide) (by decide) fun r6 s6 _ _ hs6 => wp_then (P := fun z => 1 ≤ z.1.length ∧ z.1.length ≤ 1000 ∧ Stm z.2) ?_ ?_)
  · refine wp_ite (fun _ => ?_) fun _ => wp_some ⟨by dsimp only; omega, by dsimp only; omega, hs6⟩
    refine wp_grd ?_ (wp_grd ?_ (wp_let (wp_some ⟨?_, ?_, hs6⟩)))
    · simp only [List.length_singleton]; omega
    · simp only [List.length_append, List.length_singleton]; omega
    · simp only [List.length_append, List.length_singleton]; omega
    · simp only [List.length_append, List.length_singleton]; omega
  rintro ⟨pool, s7⟩ ⟨hp1, hp2, hs7⟩
  dsimp only at hp1 hp2 hs7 ⊢
  refine wp_next hs7 (by decide) (by decide) fun r8 s8 h80 h81 hs8 => wp_bind (wp_at h80 (by simpa using h81) fun sc hsc _ => wp_let ?_)
  have hsc : sc = 1 ∨ sc = 333333 := by
    simp only [List.mem_cons, List.not_mem_nil, or_false] at hsc
    omega
  have hscm : sm sc = true := by rcases hsc with h | h <;> subst h <;> rfl
  refine wp_stream (by decide) fun u1 hu1 => wp_then (names_wp hu1 hsz0 hsz1) ?_
  rintro ⟨ns, u2⟩ ⟨hns, hu2⟩
  dsimp only at hns hu2 ⊢
  have hnl := hns.ln
  refine wp_let (wp_stream (by decide) fun v1 hv1 => wp_let (wp_then (domains_wp hv1 (by omega) hp1 hp2 hmost) ?_))
  rintro ⟨ds, v2⟩ ⟨hdk, hdl, hv2⟩
  dsimp only at hdk hdl hv2 ⊢
  have hdlen : ds.length = ns.length := by rw [← hdk, List.length_map]
  refine wp_eq (sides_ok (by rw [hdk]; exact hns.nd) (by omega)) (wp_let ?_)
  refine wp_then (P := fun c => (c.1 = true → 0 < size) ∧ Stm c.2) ?_ ?_
  · refine wp_ite (fun h => ?_) fun _ => wp_some ⟨(fun h => nomatch h), hv2⟩
    exact wp_next hv2 (by decide) (by decide) fun r t _ _ ht => wp_some ⟨fun _ => by simpa using h, ht⟩
  rintro ⟨c1, v3⟩ ⟨hc1, hv3⟩
  dsimp only at hc1 hv3 ⊢
  refine wp_then (P := fun z => keys z.1 = ns ∧ (∀ p ∈ z.1, p.2.length ≤ most.toNat) ∧ Stm z.2) ?_ ?_
  · refine wp_ite (fun h => ?_) fun _ => wp_some ⟨hdk, hdl, hv3⟩
    have hpos := hc1 h
    refine wp_next hv3 hpos (by omega) fun r t h0 h1 ht => wp_bind (wp_at h0 (by omega) fun nm hnm _ => wp_grd (by omega) (wp_some ⟨?_, fun p hp => ?_, ht⟩))
    · rw [keys_put_old (by unfold keys; rw [hdk]; exact hnm)]
      exact hdk
    · have hp : p ∈ dput ds nm [] := hp
      rw [dput_old (by unfold keys; rw [hdk]; exact hnm)] at hp
      obtain ⟨q, hq, e⟩ := List.mem_map.mp hp
      by_cases h : q.1 = nm
      · rw [if_pos h] at e; rw [← e]; exact Nat.zero_le _
      · rw [if_neg h] at e; rw [← e]; exact hdl q hq
  rintro ⟨sides, v4⟩ ⟨hsk, hsl, hv4⟩
  dsimp only at hsk hsl hv4 ⊢
  refine wp_stream (by decide) fun w1 hw1 => wp_let (wp_bind (wp_compM (fun p o s => o.map Prod.snd = p ∧ (∀ q ∈ o, sm q.1 = true) ∧ Stm s) (pre := []) (out := []) ⟨rfl, fun _ h => absurd h List.not_mem_nil, hw1⟩ ?_ ?_))
  · rintro p x t o s e ⟨ho, hq, hs⟩
    rw [if_pos rfl]
    refine wp_next hs (by decide) (by decide) fun r t h0 h1 ht => wp_grd (by rw [hscm, Bool.or_true]) (wp_some ⟨?_, fun q hq2 => ?_, ht⟩)
    · show (o ++ [_]).map Prod.snd = p ++ [x]
      rw [List.map_append, ho]; rfl
    · rcases List.mem_append.mp hq2 with h | h
      · exact hq q h
      · have h : q ∈ [((r - 3) * sc, x)] := h
        rw [List.mem_singleton.mp h]
        dsimp only
        rcases hsc with h | h <;> subst h <;> exact sm_lt (by omega) (by omega)
  rintro ⟨ts, w2⟩ ⟨hts, htm, hw2⟩
  have hts : ts.map Prod.snd = ns := hts
  have htm : ∀ q ∈ ts, sm q.1 = true := htm
  have hw2 : Stm w2 := hw2
  have htl : ts.length = ns.length := by rw [← hts, List.length_map]
  have htn : ∀ q ∈ ts, q.2 ∈ ns := fun q hq => by rw [← hts]; exact List.mem_map.mpr ⟨q, hq, rfl⟩
  refine wp_let (wp_then (choice_wp hw2 htm (fun p hp => by rw [hsk]; exact htn p hp) (fun p hp => ?_) hp1 hp2) ?_)
  · have := hsl p hp
    have := hsml.m3
    omega
  rintro ⟨tot, w3⟩ hw3
  refine wp_then (bounds_wp hw3) ?_
  rintro ⟨bs, w4⟩ ⟨⟨lo, hi, ebs⟩, hw4⟩
  dsimp only at ebs hw4 ⊢
  subst ebs
  refine wp_let (wp_next hw4 (by decide) (by decide) fun r5 w5 _ _ hw5 => wp_let ?_)
  dsimp only
  -- the sides
  have nds : (keys sides).Nodup := by rw [hsk]; exact hns.nd
  let S : Str → List Int := fun n => (dget sides n).getD []
  have hS : ∀ n ∈ ns, dget sides n = some (S n) := fun n hn => by
    obtain ⟨v, e⟩ := dget_some (d := sides) (k := n) (by rw [hsk]; exact hn)
    show dget sides n = some ((dget sides n).getD [])
    rw [e]; rfl
  have hSl : ∀ n ∈ ns, (S n).length ≤ most.toNat := fun n hn => hsl (n, S n) (dget_mem (hS n hn))
  have F1 : Fit S most.toNat sides ts := ⟨htm, fun p hp => hS _ (htn p hp), fun p hp => hSl _ (htn p hp)⟩
  have hsml2 : Sml most.toNat ts.length := by
    rw [show ts.length = size.toNat by omega]
    exact hsml
  have hn1 : ts.length < 1000 := by omega
  have hgl : ∀ k, k ≤ ts.length → ((ts.take k).foldl (stepL S) [0]).length ≤ 300 := fun k hk => by
    have g := grow (S := S) (m := most.toNat) (f := stepL S) (fun xs p => Nat.le_of_eq (len_step xs)) (ts.take k) [0] fun q hq => F1.ln q (List.mem_of_mem_take hq)
    rw [List.length_take, Nat.min_eq_left hk, List.length_singleton, Nat.one_mul] at g
    exact Nat.le_trans g (hsml2.pw k hk)
  have hgs : ∀ k, k ≤ ts.length → ((ts.take k).foldl (stepS S) [0]).length ≤ 300 := fun k hk => Nat.le_trans (lv_len (S := S) (m := most.toNat) (lo := lo) (hi := hi) (ts := ts) F1.ln hk).2 (hsml2.pw k hk)
  refine wp_eq (heads_ok F1 hsml2 hn1) ?_
  have e1 : compM (scanL (stepL S) [0] ts) () (fun x419 s420 => if true = true then grd (x419.length + 1 < scanBound) (some (some (sideL x419), ())) else some ((none : Option (List Int)), ())) = some ((scanL (stepL S) [0] ts).filterMap (fun x => some (sideL x)), ()) := compM_pure fun x hx => by
    obtain ⟨k, hk⟩ := List.getElem?_of_mem hx
    have hkl : k ≤ ts.length := by
      by_cases h : k ≤ ts.length
      · exact h
      · rw [List.getElem?_eq_none (by rw [scan_len]; omega)] at hk; cases hk
    rw [scan_get _ _ k hkl] at hk
    cases hk
    have := hgl k hkl
    rw [if_pos rfl, gp (by omega)]
  rw [filterMap_some, layers_eq] at e1
  refine wp_eq e1 (wp_let (wp_eq (tails_ok F1 hsml2 hn1) (wp_let (wp_let ?_))))
  dsimp only
  have hll : (scanL (stepS S) [0] ts).length = ts.length + 1 := scan_len _ _
  refine wp_grd (rg_lt (by omega) (by omega)) (wp_bind (wp_for (fun p s => s = (List.range p.length).map (lvP S lo hi ts)) rfl ?_ ?_))
  · rintro p x t s e rfl
    have ex := rngL_split e
    have hp : p.length ≤ ts.length := by omega
    have hxn : x.toNat = p.length := by omega
    have a1 : atI (scanL (stepS S) [0] ts) x = some ((ts.take p.length).foldl (stepS S) [0]) := by
      rw [atI_get (by omega) (by omega), ← List.getElem?_eq_getElem, hxn]
      exact scan_get ts [0] _ hp
    have a2 : atI (tlsP S ts) x = some (tlP S (ts.drop p.length)) := by
      rw [atI_get (by omega) (by rw [tls_len]; omega), ← List.getElem?_eq_getElem, hxn]
      exact tls_get ts _ hp
    have e2 : compM ((ts.take p.length).foldl (stepS S) [0]) () (fun x469 s474 => (atI (tlsP S ts) x).bind fun x476 => (atI [lo, hi] (0 : Int)).bind fun x477 => (atI [lo, hi] (1 : Int)).bind fun x478 => (M_l_leads x469 x476 x477 x478).bind fun r479 => if r479 = true then some (some x469, ()) else some ((none : Option Int), ())) = some (((ts.take p.length).foldl (stepS S) [0]).filterMap (fun t => if ((tlP S (ts.drop p.length)).any fun u => wi lo hi (t + u)) = true then some t else none), ()) := compM_pure fun y _ => by
      rw [a2, show atI [lo, hi] (0 : Int) = some lo from rfl, show atI [lo, hi] (1 : Int) = some hi from rfl]
      simp only [Option.bind_some]
      rw [leads_ok]
      simp only [Option.bind_some]
      split <;> rfl
    have e3 : ((ts.take p.length).foldl (stepS S) [0]).filterMap (fun t => if ((tlP S (ts.drop p.length)).any fun u => wi lo hi (t + u)) = true then some t else none) = lvP S lo hi ts p.length := by
      unfold lvP
      generalize (ts.take p.length).foldl (stepS S) [0] = l
      induction l with
      | nil => rfl
      | cons a l ih =>
        rw [List.filterMap_cons, List.filter_cons, ← ih]
        by_cases h : ((tlP S (ts.drop p.length)).any fun u => wi lo hi (a + u)) = true
        · rw [if_pos h, if_pos h]
        · rw [if_neg h, if_neg h]
    rw [e3] at e2
    refine wp_eq a1 (wp_eq e2 (wp_grd ?_ (wp_some ?_)))
    · rw [List.length_map, List.length_range]; omega
    · rw [List.length_append, List.length_singleton, List.range_succ, List.map_append]; rfl
  rintro lv rfl
  rw [rngL_len, hll, show ((ts.length + 1 : Nat) : Int).toNat = ts.length + 1 by omega]
  refine wp_let (wp_next hw5 (by omega) (by omega) fun r6 w6 h60 h61 _ => wp_let (wp_let ?_))
  dsimp only
  have hr6 : r6 ≤ (ns.length : Int) := by omega
  have c1 := cutL_len ns (some r6) none
  have c2 := cutL_len ns none (some r6)
  rw [rot_eq h60 hr6]
  have hrm : ∀ n, n ∈ ns.drop r6.toNat ++ ns.take r6.toNat ↔ n ∈ ns := fun n => by
    have : (ns.drop r6.toNat ++ ns.take r6.toNat).Perm ns := List.perm_append_comm.trans (by rw [List.take_append_drop])
    exact this.mem_iff
  have hrp : (ns.drop r6.toNat ++ ns.take r6.toNat).Perm ns := List.perm_append_comm.trans (by rw [List.take_append_drop])
  have hrn : (ns.drop r6.toNat ++ ns.take r6.toNat).Nodup := hrp.nodup_iff.mpr hns.nd
  generalize ns.drop r6.toNat ++ ns.take r6.toNat = rot at hrm hrp hrn ⊢
  have hrl := hrp.length_eq
  refine wp_grd (by omega) (wp_bind (wp_for (fun p s => s = p.map fun n => (n, S n)) rfl ?_ ?_))
  · rintro p x t s e rfl
    have hx : x ∈ ns := (hrm x).mp (mem_split e)
    have hp : p.length < rot.length := by rw [e]; simp
    refine wp_eq (hS x hx) (wp_grd ?_ (wp_some ?_))
    · rw [List.length_map]; omega
    · rw [dput_new, List.map_append]
      · rfl
      · intro h
        unfold keys at h
        rw [List.map_map] at h
        obtain ⟨y, hy, ey⟩ := List.mem_map.mp h
        have ey : y = x := ey
        subst ey
        rw [e] at hrn
        exact (List.nodup_append.mp hrn).2.2 _ hy _ List.mem_cons_self rfl
  rintro handed rfl
  have hkeys : (rot.map fun n => (n, S n)).map Prod.fst = rot := by
    rw [List.map_map]
    exact List.map_id' _
  have hdg : ∀ n ∈ ns, dget (rot.map fun n => (n, S n)) n = some (S n) := fun n hn => by
    refine mem_dget (by unfold keys; rw [hkeys]; exact hrn) ?_
    exact List.mem_map.mpr ⟨n, (hrm n).mpr hn, rfl⟩
  have F2 : Fit S most.toNat (rot.map fun n => (n, S n)) ts := ⟨htm, fun p hp => hdg _ (htn p hp), fun p hp => hSl _ (htn p hp)⟩
  refine wp_grd (by rfl) (wp_bind (wp_forL (fun _ _ => True) trivial ?_ ?_))
  · rintro p x t s e _
    refine wp_eq (sum_ok F2 hsml2 hn1) (wp_then (due_ok (L := scanL (stepS S) [0] ts) (fun y hy => ?_) (by omega)) ?_)
    · obtain ⟨k, hk⟩ := List.getElem?_of_mem hy
      have hkl : k ≤ ts.length := by
        by_cases h : k ≤ ts.length
        · exact h
        · rw [List.getElem?_eq_none (by omega)] at hk; cases hk
      rw [scan_get _ _ k hkl] at hk
      cases hk
      have := hgs k hkl
      exact ⟨scanS_sorted _ _ (List.pairwise_singleton _ _), by omega⟩
    rintro ⟨b1, z1⟩ hb1
    have hb1 : b1 = true := hb1
    subst hb1
    rw [if_neg (by simp)]
    refine wp_eq (l_live_ok F2 hsml2 hn1) (wp_then (due_ok (L := (List.range (ts.length + 1)).map (lvP S lo hi ts)) (fun y hy => ?_) (by rw [List.length_map, List.length_range]; omega)) ?_)
    · obtain ⟨k, hk, rfl⟩ := List.mem_map.mp hy
      have hkl : k ≤ ts.length := by
        have := List.mem_range.mp hk
        omega
      have := (lv_len (S := S) (m := most.toNat) (lo := lo) (hi := hi) (ts := ts) F1.ln hkl).1
      have := hsml2.pw k hkl
      exact ⟨(scanS_sorted _ _ (List.pairwise_singleton _ _)).sublist List.filter_sublist, by omega⟩
    rintro ⟨b2, z2⟩ hb2
    have hb2 : b2 = true := hb2
    subst hb2
    rw [if_neg (by simp)]
    exact wp_some trivial
  · rintro s _
    refine wp_grd (okts fun p hp => hns.ok _ (htn p hp)) ?_
    rw [if_pos (by simp)]
    have hq : deq (rot.map fun n => (n, S n)) sides = true := by
      unfold deq
      rw [Bool.and_eq_true]
      refine ⟨?_, ?_⟩
      · have : sides.length = ns.length := by rw [← hsk]; exact (List.length_map _).symm
        rw [List.length_map, beq_iff_eq]
        omega
      · rw [List.all_eq_true]
        intro p hp
        obtain ⟨n, hn, rfl⟩ := List.mem_map.mp hp
        exact decide_eq_true (hS n ((hrm n).mp hn))
    rw [if_pos hq, hkeys]
    refine wp_bind (wp_bind (wp_grd (by omega) (wp_grd (okns fun p hp => hns.ok _ ((hrm p).mp hp)) (wp_some (wp_some (wp_some ?_))))))
    simp
end My
end
section
set_option Elab.async false
set_option linter.all false
set_option maxRecDepth 100000
set_option maxHeartbeats 0
namespace My
open PySem PySem.Spec PyProof.Rows L2 L3
def d_side_of : He.DefD := ⟨("side_of", none), "side_of", "side_of", defArgs (top 1), defBody (top 1), defScope (top 1), [], []⟩
def d_within_bounds : He.DefD := ⟨("within_bounds", none), "within_bounds", "within_bounds", defArgs (top 3), defBody (top 3), defScope (top 3), [], []⟩
def d_layer_behind : He.DefD := ⟨("layer_behind", none), "layer_behind", "layer_behind", defArgs (top 4), defBody (top 4), defScope (top 4), [], []⟩
def d_layer_before : He.DefD := ⟨("layer_before", none), "layer_before", "layer_before", defArgs (top 5), defBody (top 5), defScope (top 5), [], []⟩
def d_sum_layers : He.DefD := ⟨("sum_layers", none), "sum_layers", "sum_layers", defArgs (top 6), defBody (top 6), defScope (top 6), [], []⟩
def d_live_layers : He.DefD := ⟨("live_layers", none), "live_layers", "live_layers", defArgs (top 7), defBody (top 7), defScope (top 7), [], [("low", .non), ("high", .non)]⟩
def d__law_is_integer : He.DefD := ⟨("_law_is_integer", none), "_law_is_integer", "_law_is_integer", defArgs (top 9), defBody (top 9), defScope (top 9), [], []⟩
def d__law_stream : He.DefD := ⟨("_law_stream", none), "_law_stream", "_law_stream", defArgs (top 10), defBody (top 10), defScope (top 10), [], []⟩
def d__law_next : He.DefD := ⟨("_law_next", none), "_law_next", "_law_next", defArgs (top 11), defBody (top 11), defScope (top 11), [], []⟩
def d__law_names : He.DefD := ⟨("_law_names", none), "_law_names", "_law_names", defArgs (top 12), defBody (top 12), defScope (top 12), [], []⟩
def d__law_pool : He.DefD := ⟨("_law_pool", none), "_law_pool", "_law_pool", defArgs (top 13), defBody (top 13), defScope (top 13), [], []⟩
def d__law_domains : He.DefD := ⟨("_law_domains", none), "_law_domains", "_law_domains", defArgs (top 14), defBody (top 14), defScope (top 14), [], []⟩
def d__law_sides : He.DefD := ⟨("_law_sides", none), "_law_sides", "_law_sides", defArgs (top 15), defBody (top 15), defScope (top 15), [], []⟩
def d__law_is_side : He.DefD := ⟨("_law_is_side", none), "_law_is_side", "_law_is_side", defArgs (top 16), defBody (top 16), defScope (top 16), [], []⟩
def d__law_sums : He.DefD := ⟨("_law_sums", none), "_law_sums", "_law_sums", defArgs (top 17), defBody (top 17), defScope (top 17), [], []⟩
def d__law_heads : He.DefD := ⟨("_law_heads", none), "_law_heads", "_law_heads", defArgs (top 18), defBody (top 18), defScope (top 18), [], []⟩
def d__law_tails : He.DefD := ⟨("_law_tails", none), "_law_tails", "_law_tails", defArgs (top 19), defBody (top 19), defScope (top 19), [], []⟩
def d__law_within : He.DefD := ⟨("_law_within", none), "_law_within", "_law_within", defArgs (top 20), defBody (top 20), defScope (top 20), [], []⟩
def d__law_leads : He.DefD := ⟨("_law_leads", none), "_law_leads", "_law_leads", defArgs (top 21), defBody (top 21), defScope (top 21), [], []⟩
def d__law_layers_due : He.DefD := ⟨("_law_layers_due", none), "_law_layers_due", "_law_layers_due", defArgs (top 22), defBody (top 22), defScope (top 22), [], []⟩
def d__law_bounds : He.DefD := ⟨("_law_bounds", none), "_law_bounds", "_law_bounds", defArgs (top 23), defBody (top 23), defScope (top 23), [], []⟩
def d__law_live : He.DefD := ⟨("_law_live", none), "_law_live", "_law_live", defArgs (top 24), defBody (top 24), defScope (top 24), [], []⟩
def d__law_choice : He.DefD := ⟨("_law_choice", none), "_law_choice", "_law_choice", defArgs (top 25), defBody (top 25), defScope (top 25), [], []⟩
def d_law : He.DefD := ⟨("law", none), "law", "law", defArgs (top 26), defBody (top 26), defScope (top 26), [], []⟩
def fn : List He.DefD := [d_side_of, d_within_bounds, d_layer_behind, d_layer_before, d_sum_layers, d_live_layers, d__law_is_integer, d__law_stream, d__law_next, d__law_names, d__law_pool, d__law_domains, d__law_sides, d__law_is_side, d__law_sums, d__law_heads, d__law_tails, d__law_within, d__law_leads, d__law_layers_due, d__law_bounds, d__law_live, d__law_choice, d_law]
def fa : List He.Fa := [.glo "side_of", .glo "within_bounds", .glo "layer_behind", .glo "layer_before", .glo "sum_layers", .glo "live_layers", .glo "_law_is_integer", .glo "_law_stream", .glo "_law_next", .glo "_law_names", .glo "_law_pool", .glo "_law_domains", .glo "_law_sides", .glo "_law_is_side", .glo "_law_sums", .glo "_law_heads", .glo "_law_tails", .glo "_law_within", .glo "_law_leads", .glo "_law_layers_due", .glo "_law_bounds", .glo "_law_live", .glo "_law_choice", .glo "law", .free "all", .free "bool", .free "int", .free "isinstance", .free "len", .free "list", .free "range", .free "set", .free "sorted"]
def loose0 : List PySem.Str := ["side_of", "within_bounds", "layer_behind", "layer_before", "sum_layers", "live_layers", "_law_is_integer", "_law_stream", "_law_next", "_law_names", "_law_pool", "_law_domains", "_law_sides", "_law_is_side", "_law_sums", "_law_heads", "_law_tails", "_law_within", "_law_leads", "_law_layers_due", "_law_bounds", "_law_live", "_law_choice"]
def loose : List PySem.Str := loose0
abbrev R : PySem.W.OpenRow := PySem.W.OpenLaw.row PySem.Challenge.rw_curbdesk_k10_live_layers
abbrev hk : PySem.W.Hook := He.hookD 4 fa fn
def ob (s : PySem.W.SharedT) : He.AlD := He.obsDG 4 fa fn (HandSHeadRun.getT s)
theorem ob_eq (s : PySem.W.SharedT) : ob s = hk.obs s.abs := He.obsDG_eq (HandSHeadRun.getT_eq s)
theorem run (w : World) : HandSHeadRun.RunEq R (PySem.W.view R.prog [26]) hk ob 2000 loose w := by
  intro os
  kernel_rfl
theorem facts {P : Program} {w : World} {K : PySem.W.Frag} {h : Heap} {mg : Str → Option Value} {f : Addr} (X : K.In h) (G : h.Ns mainGlobals mg) (hfa : mg ("law" : Str) = some (.ref f)) (c : He.SaysD fa fn K) :
    ∃ fd : FuncData, (∀ (s : Shared) (v : Value), BindsTo s fd ⟨[v], []⟩ [("_law_script", v)]) ∧ ∀ base : Heap, K.In base → base.Ns mainGlobals mg → FnOk P w K mg base CX0 6 f fd ["_law_script"] (Sp_S K M_law) := by
  obtain ⟨fd_side_of, F_side_of⟩ := c.def_ 0 (d := d_side_of) rfl
  obtain ⟨fd_within_bounds, F_within_bounds⟩ := c.def_ 1 (d := d_within_bounds) rfl
  obtain ⟨fd_layer_behind, F_layer_behind⟩ := c.def_ 2 (d := d_layer_behind) rfl
  obtain ⟨fd_layer_before, F_layer_before⟩ := c.def_ 3 (d := d_layer_before) rfl
  obtain ⟨fd_sum_layers, F_sum_layers⟩ := c.def_ 4 (d := d_sum_layers) rfl
  obtain ⟨fd_live_layers, F_live_layers⟩ := c.def_ 5 (d := d_live_layers) rfl
  obtain ⟨fd__law_is_integer, F__law_is_integer⟩ := c.def_ 6 (d := d__law_is_integer) rfl
  obtain ⟨fd__law_stream, F__law_stream⟩ := c.def_ 7 (d := d__law_stream) rfl
  obtain ⟨fd__law_next, F__law_next⟩ := c.def_ 8 (d := d__law_next) rfl
  obtain ⟨fd__law_names, F__law_names⟩ := c.def_ 9 (d := d__law_names) rfl
  obtain ⟨fd__law_pool, F__law_pool⟩ := c.def_ 10 (d := d__law_pool) rfl
  obtain ⟨fd__law_domains, F__law_domains⟩ := c.def_ 11 (d := d__law_domains) rfl
  obtain ⟨fd__law_sides, F__law_sides⟩ := c.def_ 12 (d := d__law_sides) rfl
  obtain ⟨fd__law_is_side, F__law_is_side⟩ := c.def_ 13 (d := d__law_is_side) rfl
  obtain ⟨fd__law_sums, F__law_sums⟩ := c.def_ 14 (d := d__law_sums) rfl
  obtain ⟨fd__law_heads, F__law_heads⟩ := c.def_ 15 (d := d__law_heads) rfl
  obtain ⟨fd__law_tails, F__law_tails⟩ := c.def_ 16 (d := d__law_tails) rfl
  obtain ⟨fd__law_within, F__law_within⟩ := c.def_ 17 (d := d__law_within) rfl
  obtain ⟨fd__law_leads, F__law_leads⟩ := c.def_ 18 (d := d__law_leads) rfl
  obtain ⟨fd__law_layers_due, F__law_layers_due⟩ := c.def_ 19 (d := d__law_layers_due) rfl
  obtain ⟨fd__law_bounds, F__law_bounds⟩ := c.def_ 20 (d := d__law_bounds) rfl
  obtain ⟨fd__law_live, F__law_live⟩ := c.def_ 21 (d := d__law_live) rfl
  obtain ⟨fd__law_choice, F__law_choice⟩ := c.def_ 22 (d := d__law_choice) rfl
  obtain ⟨fd_law, F_law⟩ := c.def_ 23 (d := d_law) rfl
  have e := hfa.symm.trans (He.glo_ok X G (c.fact 23 (f := .glo "law") rfl))
  cases e
  have b := FunD.bindsA (ps := ["_law_script"]) F_law fun _ _ _ _ _ _ us hl => match us, hl with | [_], _ => rfl
  have C : Ev K mg := ⟨⟨_, fd_side_of, F_side_of, He.glo_ok X G (c.fact 0 (f := .glo "side_of") rfl)⟩, ⟨_, fd_within_bounds, F_within_bounds, He.glo_ok X G (c.fact 1 (f := .glo "within_bounds") rfl)⟩, ⟨_, fd_layer_behind, F_layer_behind, He.glo_ok X G (c.fact 2 (f := .glo "layer_behind") rfl)⟩, ⟨_, fd_layer_before, F_layer_before, He.glo_ok X G (c.fact 3 (f := .glo "layer_before") rfl)⟩, ⟨_, fd_sum_layers, F_sum_layers, He.glo_ok X G (c.fact 4 (f := .glo "sum_layers") rfl)⟩, ⟨_, fd_live_layers, F_live_layers, He.glo_ok X G (c.fact 5 (f := .glo "live_layers") rfl)⟩, ⟨_, fd__law_is_integer, F__law_is_integer, He.glo_ok X G (c.fact 6 (f := .glo "_law_is_integer") rfl)⟩, ⟨_, fd__law_stream, F__law_stream, He.glo_ok X G (c.fact 7 (f := .glo "_law_stream") rfl)⟩, ⟨_, fd__law_next, F__law_next, He.glo_ok X G (c.fact 8 (f := .glo "_law_next") rfl)⟩, ⟨_, fd__law_names, F__law_names, He.glo_ok X G (c.fact 9 (f := .glo "_law_names") rfl)⟩, ⟨_, fd__law_pool, F__law_pool, He.glo_ok X G (c.fact 10 (f := .glo "_law_pool") rfl)⟩, ⟨_, fd__law_domains, F__law_domains, He.glo_ok X G (c.fact 11 (f := .glo "_law_domains") rfl)⟩, ⟨_, fd__law_sides, F__law_sides, He.glo_ok X G (c.fact 12 (f := .glo "_law_sides") rfl)⟩, ⟨_, fd__law_is_side, F__law_is_side, He.glo_ok X G (c.fact 13 (f := .glo "_law_is_side") rfl)⟩, ⟨_, fd__law_sums, F__law_sums, He.glo_ok X G (c.fact 14 (f := .glo "_law_sums") rfl)⟩, ⟨_, fd__law_heads, F__law_heads, He.glo_ok X G (c.fact 15 (f := .glo "_law_heads") rfl)⟩, ⟨_, fd__law_tails, F__law_tails, He.glo_ok X G (c.fact 16 (f := .glo "_law_tails") rfl)⟩, ⟨_, fd__law_within, F__law_within, He.glo_ok X G (c.fact 17 (f := .glo "_law_within") rfl)⟩, ⟨_, fd__law_leads, F__law_leads, He.glo_ok X G (c.fact 18 (f := .glo "_law_leads") rfl)⟩, ⟨_, fd__law_layers_due, F__law_layers_due, He.glo_ok X G (c.fact 19 (f := .glo "_law_layers_due") rfl)⟩, ⟨_, fd__law_bounds, F__law_bounds, He.glo_ok X G (c.fact 20 (f := .glo "_law_bounds") rfl)⟩, ⟨_, fd__law_live, F__law_live, He.glo_ok X G (c.fact 21 (f := .glo "_law_live") rfl)⟩, ⟨_, fd__law_choice, F__law_choice, He.glo_ok X G (c.fact 22 (f := .glo "_law_choice") rfl)⟩, He.free_ok X G (c.fact 24 (f := .free "all") rfl), He.free_ok X G (c.fact 25 (f := .free "bool") rfl), He.free_ok X G (c.fact 26 (f := .free "int") rfl), He.free_ok X G (c.fact 27 (f := .free "isinstance") rfl), He.free_ok X G (c.fact 28 (f := .free "len") rfl), He.free_ok X G (c.fact 29 (f := .free "list") rfl), He.free_ok X G (c.fact 30 (f := .free "range") rfl), He.free_ok X G (c.fact 31 (f := .free "set") rfl), He.free_ok X G (c.fact 32 (f := .free "sorted") rfl)⟩
  exact ⟨fd_law, fun s v => b s [v] rfl, fun base _ _ => ok_law C F_law⟩
end My
end
set_option Elab.async false
set_option maxRecDepth 100000
set_option maxHeartbeats 0
open PySem PySem.W PySem.Calls PyProof.Rows
theorem PySem.Challenge.cw_curbdesk_k10_live_layers_holds : PySem.Challenge.rw_curbdesk_k10_live_layers.Holds := by
  w_on; o_law
  refine HandSHeadRun.head_any (r := OpenLaw.row PySem.Challenge.rw_curbdesk_k10_live_layers) (q := view (OpenLaw.row PySem.Challenge.rw_curbdesk_k10_live_layers).prog [26]) (H := My.hk) (ob := My.ob) (M := 2000) (loose := My.loose) (d := HandSHeadRun.topDef (OpenLaw.row PySem.Challenge.rw_curbdesk_k10_live_layers).prog 26) (kwd := []) My.ob_eq
    (by kernel_rfl) (fun s => by kernel_rfl) My.run (by kernel_rfl) (by kernel_rfl) (by kernel_rfl) (by rfl) (by first | assumption | decide +kernel) (by decide +kernel) ⟨rfl, rfl, rfl, rfl, rfl, by decide +kernel⟩ ?hw ?hc
  case hw => w_witness2
  case hc =>
    refine L2.walk_ofE (l := PySem.Challenge.rw_curbdesk_k10_live_layers) (n := 63) (k := 6) (x := "_law_script") (CX := L2.CX0) rfl (by decide) (by kernel_rfl) ⟨rfl, by decide, by decide⟩ ?F (fun _ _ _ _ z => z)
    intro w mg fa h Y G hmg0
    obtain ⟨K, KX, c⟩ := Y
    have hmg : mg ("law" : PySem.Str) = some (.ref fa) := by
      have e : (HandSHeadRun.topDef (OpenLaw.row PySem.Challenge.rw_curbdesk_k10_live_layers).prog 26).name = ("law" : PySem.Str) := by kernel_rfl
      rw [← e]
      exact hmg0
    obtain ⟨fd, hb, hF⟩ := My.facts (P := (PySem.Challenge.rw_curbdesk_k10_live_layers).prog) (w := w) KX G hmg c
    exact ⟨K, fd, L3.Sp_S K My.M_law, KX, hb, fun H a ns hl _ hS => ⟨a, ns, rfl, Nat.le_trans hl (by decide), hS, true, My.law_ok ns, fun _ => rfl⟩, hF⟩
