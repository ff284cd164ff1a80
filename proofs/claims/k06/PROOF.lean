import PyProof.Rows.All
import Wide.All
import OpenK.AllK
import Wide.FinOn
import KE.KStateDown
import HandS.ForMost
import HandS.Flow
import HandS.Style
import HandS.IsInst
import HandS.Strs
import HandS.SortInts
import HandS.Defaults
import HandS.MakeKwOnly
import HandS.SetFor
import HandS.More
import HandS.Finally
import HandS.DictComp
import HandS.DictEq
import HandS.DeepEq
import HandS.Iter
import HandS.ListEq
import PyProof.NeKinds
import HandS.ExcInit
import KE.KExcSuper
import HandS.ForExc
import HandS.ExcField
import HandS.ExcIs
import KE.KExcIs
import HandS.Wide
import HandS.Exc
import HandS.HeadHook1
import HandS.HeadHook2
import HandS.Head0
import HandS.Head1
import HandS.Head2
import HandS.HeadEnd
import PySem.Challenge.RW_curbdesk_k06_run_plan
section
set_option Elab.async false
set_option linter.all false
set_option maxRecDepth 100000
set_option maxHeartbeats 4000000
/-! L3: typed evaluation over the hand layer -/
namespace L3
open PySem PySem.Spec PyProof.Rows L2
abbrev SS := L2.St

/-! ### what never changes -/
def Pst : HO → Prop
  | .frz _ _ => True
  | .tup _ => True
  | .xd _ => True
  | _ => False
def Fzs (H H' : Hp) : Prop := ∀ a o, Pst o → H a = some o → H' a = some o
theorem Fzs.refl (H : Hp) : Fzs H H := fun _ _ _ h => h
theorem Fzs.trans {H H1 H2 : Hp} (a : Fzs H H1) (b : Fzs H1 H2) : Fzs H H2 := fun x o p h => b x o p (a x o p h)
def Gr (H H' : Hp) : Prop := ∀ a o, H a = some o → H' a = some o
theorem Gr.refl (H : Hp) : Gr H H := fun _ _ h => h
theorem Gr.trans {H H1 H2 : Hp} (a : Gr H H1) (b : Gr H1 H2) : Gr H H2 := fun x o h => b x o (a x o h)
theorem Gr.fzs {H H' : Hp} (g : Gr H H') : Fzs H H' := fun a o _ h => g a o h
theorem Gr.new {H : Hp} {p : Addr} {o : HO} (h : H p = none) : Gr H (upd H p o) := fun a u e => by
  rw [upd_ne (ne_of_none e h)]; exact e
theorem Mut.npst {o : HO} (m : Mut (some o)) : ¬ Pst o := by
  cases o <;> first | exact fun z => z | exact fun _ => m
theorem Fzs.mut {H : Hp} {p : Addr} {o u : HO} (h : H p = some o) (m : ¬ Pst o) : Fzs H (upd H p u) := fun a x px e => by
  have : a ≠ p := fun z => by subst z; rw [h] at e; cases e; exact m px
  rw [upd_ne this]; exact e

/-! ### frozen predicates -/
structure Pd where
  pr : Hp → V → Prop
  mono : ∀ {H H' : Hp} {v : V}, Fzs H H' → pr H v → pr H' v
def pInt (i : Int) : Pd := ⟨fun _ v => v = .int i, fun _ h => h⟩
def pBl (b : Bool) : Pd := ⟨fun _ v => v = .bl b, fun _ h => h⟩
def pStr (x : Str) : Pd := ⟨fun _ v => v = .str x, fun _ h => h⟩
def pNon : Pd := ⟨fun _ v => v = .non, fun _ h => h⟩
def pV (u : V) : Pd := ⟨fun _ v => v = u, fun _ h => h⟩
def pUnit (_ : Unit) : Pd := pNon
def pOp {α : Type} (E : α → Pd) : Option α → Pd
  | none => pNon
  | some x => E x
theorem paired_mono {α β : Type} {P Q : α → β → Prop} : ∀ {l₁ : List α} {l₂ : List β}, (∀ a b, P a b → Q a b) → Paired P l₁ l₂ → Paired Q l₁ l₂
  | _, _, _, .nil => .nil
  | _, _, f, .cons r t => .cons (f _ _ r) (paired_mono f t)
def pL {α : Type} (E : α → Pd) (xs : List α) : Pd where
  pr H v := ∃ a o vs, v = .ref a ∧ H a = some (.frz o (.lst vs)) ∧ xs.length ≤ sizeLine ∧ Paired (fun x u => (E x).pr H u) xs vs
  mono := fun f ⟨a, o, vs, e, h, z, p⟩ => ⟨a, o, vs, e, f _ _ trivial h, z, paired_mono (fun x _ => (E x).mono f) p⟩
/-- a tuple of any length, of one kind -/
def pTL {α : Type} (E : α → Pd) (xs : List α) : Pd where
  pr H v := ∃ a vs, v = .ref a ∧ H a = some (.tup vs) ∧ xs.length ≤ sizeLine ∧ Paired (fun x u => (E x).pr H u) xs vs
  mono := fun f ⟨a, vs, e, h, z, p⟩ => ⟨a, vs, e, f _ _ trivial h, z, paired_mono (fun x _ => (E x).mono f) p⟩
def pT2 {α β : Type} (E : α → Pd) (G : β → Pd) (x : α × β) : Pd where
  pr H v := ∃ a u w, v = .ref a ∧ H a = some (.tup [u, w]) ∧ (E x.1).pr H u ∧ (G x.2).pr H w
  mono := fun f ⟨a, u, w, e, h, p, q⟩ => ⟨a, u, w, e, f _ _ trivial h, (E _).mono f p, (G _).mono f q⟩
def pT3 {α β γ : Type} (E : α → Pd) (G : β → Pd) (K : γ → Pd) (x : α × β × γ) : Pd where
  pr H v := ∃ a u w z, v = .ref a ∧ H a = some (.tup [u, w, z]) ∧ (E x.1).pr H u ∧ (G x.2.1).pr H w ∧ (K x.2.2).pr H z
  mono := fun f ⟨a, u, w, z, e, h, p, q, r⟩ => ⟨a, u, w, z, e, f _ _ trivial h, (E _).mono f p, (G _).mono f q, (K _).mono f r⟩
/-- a dict with text keys -/
def pD {α : Type} (E : α → Pd) (xs : List (Str × α)) : Pd where
  pr H v := ∃ a o kvs, v = .ref a ∧ H a = some (.frz o (.dK kvs)) ∧ xs.length ≤ sizeLine ∧ Paired (fun (x : Str × α) (u : Key × V) => u.1 = .inr x.1 ∧ (E x.2).pr H u.2) xs kvs
  mono := fun f ⟨a, o, vs, e, h, z, p⟩ => ⟨a, o, vs, e, f _ _ trivial h, z, paired_mono (fun x _ q => ⟨q.1, (E x.2).mono f q.2⟩) p⟩
/-- a dict with int keys -/
def pDI {α : Type} (E : α → Pd) (xs : List (Int × α)) : Pd where
  pr H v := ∃ a o kvs, v = .ref a ∧ H a = some (.frz o (.dK kvs)) ∧ xs.length ≤ sizeLine ∧ Paired (fun (x : Int × α) (u : Key × V) => u.1 = .inl x.1 ∧ (E x.2).pr H u.2) xs kvs
  mono := fun f ⟨a, o, vs, e, h, z, p⟩ => ⟨a, o, vs, e, f _ _ trivial h, z, paired_mono (fun x _ q => ⟨q.1, (E x.2).mono f q.2⟩) p⟩

theorem upd_dom {H : Hp} (p : Addr) (u : HO) : ∀ a o, H a = some o → ∃ z, upd H p u a = some z := fun a o e => by
  by_cases h : a = p
  · exact ⟨u, by rw [h, upd_same]⟩
  · exact ⟨o, by rw [upd_ne h, e]⟩
/-! ### what is owned: its cells are known exactly, and may be written -/
/-- the things at G are locked, one after the other -/
def tLk : List Addr → (Hp → Prop) → Hp → Prop
  | [], Φ, H => Φ H
  | d :: G, Φ, H => ∃ u, H d = some u ∧ Mut (some u) ∧ ∀ o, tLk G Φ (upd H d (.frz o u))
theorem tLk.mono {Φ Ψ : Hp → Prop} (f : ∀ H, Φ H → Ψ H) : ∀ {G : List Addr} {H : Hp}, tLk G Φ H → tLk G Ψ H
  | [], _, h => f _ h
  | _ :: _, _, ⟨u, h, m, k⟩ => ⟨u, h, m, fun o => tLk.mono f (k o)⟩
theorem inv_lk {X : Cx} {pins : List (Addr × Obj)} {σ : SS} {s : Shared} {Φ : Hp → Prop} : ∀ {G : List Addr} {H : Hp}, Inv X pins σ H s → tLk G Φ H → ∃ H', Inv X pins σ H' s ∧ Φ H'
  | [], H, I, h => ⟨H, I, h⟩
  | _ :: _, _, I, ⟨u, h, m, k⟩ => by
    obtain ⟨o, I'⟩ := I.lock h m
    exact inv_lk I' (k o)
structure Od where
  pr : List Addr → Hp → V → Prop
  pd : Pd
  frame : ∀ {G : List Addr} {H H' : Hp} {v : V}, pr G H v → (∀ a ∈ G, ∀ o, H a = some o → H' a = some o) → Fzs H H' → pr G H' v
  cells : ∀ {G : List Addr} {H : Hp} {v : V}, pr G H v → ∀ a ∈ G, ∃ o, H a = some o ∧ Mut (some o)
  lockd : ∀ {G : List Addr} {H H1 : Hp} {v : V}, pr G H v → (∀ a, a ∉ G → H1 a = H a) → (∀ a ∈ G, ∀ u, H a = some u → ∃ o, H1 a = some (.frz o u)) → pd.pr H1 v
theorem tLk_of {Φ : Hp → Prop} : ∀ {G : List Addr} {H : Hp}, G.Nodup → (∀ a ∈ G, ∃ u, H a = some u ∧ Mut (some u)) → (∀ H1, (∀ a, a ∉ G → H1 a = H a) → (∀ a ∈ G, ∀ u, H a = some u → ∃ o, H1 a = some (.frz o u)) → Φ H1) → tLk G Φ H
  | [], H, _, _, k => k H (fun _ _ => rfl) fun _ h => absurd h List.not_mem_nil
  | d :: G, H, nd, hm, k => by
    obtain ⟨nd1, nd2⟩ := List.nodup_cons.mp nd
    obtain ⟨u, hu, mu⟩ := hm d List.mem_cons_self
    refine ⟨u, hu, mu, fun o => tLk_of nd2 (fun a ha => ?_) fun H1 h1 h2 => k H1 (fun a ha => ?_) fun a ha w hw => ?_⟩
    · rw [upd_ne (fun e => nd1 (by rw [← e]; exact ha))]
      exact hm a (List.mem_cons_of_mem _ ha)
    · rw [h1 a (fun z => ha (List.mem_cons_of_mem _ z)), upd_ne (fun e => ha (by rw [e]; exact List.mem_cons_self))]
    · by_cases e : a = d
      · subst e
        rw [hu] at hw
        cases hw
        exact ⟨o, by rw [h1 a nd1, upd_same]⟩
      · rcases List.mem_cons.mp ha with z | z
        · exact absurd z e
        · exact h2 a z w (by rw [upd_ne e]; exact hw)
theorem Od.cellsN (d : Od) {G : List Addr} {H : Hp} {v : V} (h : d.pr G H v) : ∀ a ∈ G, ∃ o, H a = some o ∧ ¬ Pst o := fun a ha => by
  obtain ⟨o, e, m⟩ := d.cells h a ha
  exact ⟨o, e, Mut.npst m⟩
theorem Od.lock (d : Od) {G : List Addr} {H : Hp} {v : V} {Φ : Hp → Prop} (h : d.pr G H v) (nd : G.Nodup) (k : ∀ H', (∀ a, a ∉ G → H' a = H a) → (∀ a o, H a = some o → ∃ u, H' a = some u) → d.pd.pr H' v → Φ H') : tLk G Φ H :=
  tLk_of nd (d.cells h) fun H1 h1 h2 => k H1 h1 (fun a o e => by
    by_cases ha : a ∈ G
    · obtain ⟨q, hq⟩ := h2 a ha o e
      exact ⟨_, hq⟩
    · exact ⟨o, by rw [h1 a ha]; exact e⟩) (d.lockd h h1 h2)
theorem lk_fzs {G : List Addr} {H H1 : Hp} (hm : ∀ a ∈ G, ∃ o, H a = some o ∧ Mut (some o)) (h1 : ∀ a, a ∉ G → H1 a = H a) : Fzs H H1 := fun a o p e => by
  rw [h1 a fun ha => ?_]
  · exact e
  · obtain ⟨u, eu, m⟩ := hm a ha
    rw [e] at eu
    cases eu
    exact Mut.npst m p
theorem one_cells {p : Addr} {G : List Addr} {H : Hp} {u : HO} (eg : G = [p]) (h : H p = some u) (m : Mut (some u)) : ∀ a ∈ G, ∃ o, H a = some o ∧ Mut (some o) := fun a ha => by
  rw [eg] at ha
  rw [List.mem_singleton.mp ha]
  exact ⟨_, h, m⟩
def oL {α : Type} (E : α → Pd) (xs : List α) : Od where
  pr G H v := ∃ p vs, G = [p] ∧ v = .ref p ∧ H p = some (.lst vs) ∧ xs.length ≤ sizeLine ∧ Paired (fun x u => (E x).pr H u) xs vs
  pd := pL E xs
  frame := fun ⟨p, vs, eg, ev, h, z, q⟩ k f => ⟨p, vs, eg, ev, k p (by rw [eg]; exact List.mem_singleton.mpr rfl) _ h, z, paired_mono (fun x _ => (E x).mono f) q⟩
  cells := fun ⟨p, vs, eg, ev, h, z, q⟩ => one_cells eg h trivial
  lockd := fun ⟨p, vs, eg, ev, h, z, q⟩ h1 h2 => by
    obtain ⟨o, ho⟩ := h2 p (by rw [eg]; exact List.mem_singleton.mpr rfl) _ h
    exact ⟨p, o, vs, ev, ho, z, paired_mono (fun x _ => (E x).mono (lk_fzs (one_cells eg h trivial) h1)) q⟩
def oD {α : Type} (E : α → Pd) (xs : List (Str × α)) : Od where
  pr G H v := ∃ p kvs, G = [p] ∧ v = .ref p ∧ H p = some (.dK kvs) ∧ xs.length ≤ sizeLine ∧ Paired (fun (x : Str × α) (u : Key × V) => u.1 = .inr x.1 ∧ (E x.2).pr H u.2) xs kvs
  pd := pD E xs
  frame := fun ⟨p, vs, eg, ev, h, z, q⟩ k f => ⟨p, vs, eg, ev, k p (by rw [eg]; exact List.mem_singleton.mpr rfl) _ h, z, paired_mono (fun x _ q => ⟨q.1, (E x.2).mono f q.2⟩) q⟩
  cells := fun ⟨p, vs, eg, ev, h, z, q⟩ => one_cells eg h trivial
  lockd := fun ⟨p, vs, eg, ev, h, z, q⟩ h1 h2 => by
    obtain ⟨o, ho⟩ := h2 p (by rw [eg]; exact List.mem_singleton.mpr rfl) _ h
    exact ⟨p, o, vs, ev, ho, z, paired_mono (fun x _ q => ⟨q.1, (E x.2).mono (lk_fzs (one_cells eg h trivial) h1) q.2⟩) q⟩
def oDI {α : Type} (E : α → Pd) (xs : List (Int × α)) : Od where
  pr G H v := ∃ p kvs, G = [p] ∧ v = .ref p ∧ H p = some (.dK kvs) ∧ xs.length ≤ sizeLine ∧ Paired (fun (x : Int × α) (u : Key × V) => u.1 = .inl x.1 ∧ (E x.2).pr H u.2) xs kvs
  pd := pDI E xs
  frame := fun ⟨p, vs, eg, ev, h, z, q⟩ k f => ⟨p, vs, eg, ev, k p (by rw [eg]; exact List.mem_singleton.mpr rfl) _ h, z, paired_mono (fun x _ q => ⟨q.1, (E x.2).mono f q.2⟩) q⟩
  cells := fun ⟨p, vs, eg, ev, h, z, q⟩ => one_cells eg h trivial
  lockd := fun ⟨p, vs, eg, ev, h, z, q⟩ h1 h2 => by
    obtain ⟨o, ho⟩ := h2 p (by rw [eg]; exact List.mem_singleton.mpr rfl) _ h
    exact ⟨p, o, vs, ev, ho, z, paired_mono (fun x _ q => ⟨q.1, (E x.2).mono (lk_fzs (one_cells eg h trivial) h1) q.2⟩) q⟩

/-! ### where one stands -/
/-- a cell with the places that it owns -/
structure Cel where
  G : List Addr
  v : V
  d : Od
  prm : Option Nat
/-- .. the places left out: prm says which of the caller's things it is -/
structure Cell where
  v : V
  d : Od
  prm : Option Nat
def Cel.fg (c : Cel) : Cell := ⟨c.v, c.d, c.prm⟩
structure Fm where
  H0 : Hp
  M : List (List Addr)
abbrev Gm := List (Option Pd)
abbrev Δs := List Cell
def cellsOf (Δ : List Cel) : List Addr := Δ.flatMap Cel.G
structure HkO (F : Fm) (Δ : List Cel) (H : Hp) : Prop where
  base : ∀ a o, F.H0 a = some o → (∀ m ∈ F.M, a ∉ m) → H a = some o
  del : ∀ c ∈ Δ, c.d.pr c.G H c.v
  nod : (cellsOf Δ).Nodup
  own : ∀ c ∈ Δ, ∀ a ∈ c.G, F.H0 a = none ∨ ∃ i m, c.prm = some i ∧ F.M[i]? = some m ∧ a ∈ m
  mem : ∀ m ∈ F.M, ∀ a ∈ m, ∃ o, H a = some o
def Hk (F : Fm) (Δ : Δs) (H : Hp) : Prop := ∃ Δ0 : List Cel, Δ0.map Cel.fg = Δ ∧ HkO F Δ0 H
/-- the names -/
structure Nm (Γ : Gm) (σ : SS) (H : Hp) : Prop where
  len : σ.length = Γ.length
  gam : ∀ (i : Nat) (p : Pd), Γ[i]? = some (some p) → ∃ v, σ[i]? = some (some v) ∧ p.pr H v
theorem Nm.mono {Γ : Gm} {σ : SS} {H H' : Hp} (k : Nm Γ σ H) (f : Fzs H H') : Nm Γ σ H' := ⟨k.len, fun i p e => by
  obtain ⟨v, h, q⟩ := k.gam i p e
  exact ⟨v, h, p.mono f q⟩⟩
structure Ok (F : Fm) (Γ : Gm) (Δ : Δs) (σ : SS) (H : Hp) : Prop where
  hk : Hk F Δ H
  nm : Nm Γ σ H
theorem Ok.gam {F : Fm} {Γ : Gm} {Δ : Δs} {σ : SS} {H : Hp} (k : Ok F Γ Δ σ H) : ∀ (i : Nat) (p : Pd), Γ[i]? = some (some p) → ∃ v, σ[i]? = some (some v) ∧ p.pr H v := k.nm.gam
theorem Ok.len {F : Fm} {Γ : Gm} {Δ : Δs} {σ : SS} {H : Hp} (k : Ok F Γ Δ σ H) : σ.length = Γ.length := k.nm.len
theorem mem_cellsOf {Δ : List Cel} {c : Cel} {a : Addr} (h : c ∈ Δ) (ha : a ∈ c.G) : a ∈ cellsOf Δ := List.mem_flatMap.mpr ⟨c, h, ha⟩
theorem cellsOf_cons (c : Cel) (Δ : List Cel) : cellsOf (c :: Δ) = c.G ++ cellsOf Δ := by unfold cellsOf; rw [List.flatMap_cons]
theorem cellsOf_app (A B : List Cel) : cellsOf (A ++ B) = cellsOf A ++ cellsOf B := by unfold cellsOf; rw [List.flatMap_append]
theorem HkO.isC {F : Fm} {Δ : List Cel} {H : Hp} (k : HkO F Δ H) {a : Addr} (h : a ∈ cellsOf Δ) : ∃ o, H a = some o ∧ ¬ Pst o := by
  obtain ⟨c, hc, ha⟩ := List.mem_flatMap.mp h
  exact c.d.cellsN (k.del c hc) a ha
theorem HkO.gr {F : Fm} {Δ : List Cel} {H H' : Hp} (k : HkO F Δ H) (g : Gr H H') : HkO F Δ H' :=
  ⟨fun a o e m => g a o (k.base a o e m), fun c hc => c.d.frame (k.del c hc) (fun a _ o e => g a o e) g.fzs, k.nod, k.own, fun m hm a ha => (k.mem m hm a ha).imp fun o e => g a o e⟩
theorem Hk.gr {F : Fm} {Δ : Δs} {H H' : Hp} (k : Hk F Δ H) (g : Gr H H') : Hk F Δ H' := by
  obtain ⟨Δ0, e, k⟩ := k
  exact ⟨Δ0, e, k.gr g⟩
theorem Ok.gr {F : Fm} {Γ : Gm} {Δ : Δs} {σ : SS} {H H' : Hp} (k : Ok F Γ Δ σ H) (g : Gr H H') : Ok F Γ Δ σ H' := ⟨k.hk.gr g, k.nm.mono g.fzs⟩
/-- what is new now was not there at the start, or is a cell of the caller's -/
theorem HkO.fresh0 {F : Fm} {Δ : List Cel} {H : Hp} (k : HkO F Δ H) {a : Addr} (h : H a = none) : F.H0 a = none := by
  have hm : ∀ m ∈ F.M, a ∉ m := fun m hm z => by
    obtain ⟨o, e⟩ := k.mem m hm a z
    rw [h] at e; cases e
  cases e : F.H0 a with
  | none => rfl
  | some o => rw [k.base a o e hm] at h; cases h
/-- one cell more -/
theorem HkO.cons {F : Fm} {Δ : List Cel} {H : Hp} (k : HkO F Δ H) {c : Cel} (nd : c.G.Nodup) (nw : ∀ a ∈ c.G, a ∉ cellsOf Δ) (h : c.d.pr c.G H c.v) (ho : ∀ a ∈ c.G, F.H0 a = none ∨ ∃ i m, c.prm = some i ∧ F.M[i]? = some m ∧ a ∈ m) : HkO F (c :: Δ) H := by
  refine ⟨k.base, fun x hc => ?_, ?_, fun x hc a ha => ?_, k.mem⟩
  · rcases List.mem_cons.mp hc with e | hc
    · subst e; exact h
    · exact k.del x hc
  · rw [cellsOf_cons]
    refine List.nodup_append.mpr ⟨nd, k.nod, fun a ha b hb e => ?_⟩
    subst e
    exact nw a ha hb
  · rcases List.mem_cons.mp hc with e | hc
    · subst e; exact ho a ha
    · exact k.own x hc a ha
/-- a new cell -/
theorem HkO.add {F : Fm} {Δ : List Cel} {H H' : Hp} (k : HkO F Δ H) (g : Gr H H') {G : List Addr} {v : V} {d : Od} (nd : G.Nodup) (new : ∀ a ∈ G, H a = none) (h : d.pr G H' v) : HkO F (⟨G, v, d, none⟩ :: Δ) H' :=
  (k.gr g).cons (c := ⟨G, v, d, none⟩) nd (fun a ha hb => by
    obtain ⟨o, e, _⟩ := k.isC hb
    rw [new a ha] at e
    cases e) h fun a ha => .inl (k.fresh0 (new a ha))
/-- a new thing, made since H -/
def OkN (W : Bool) (F : Fm) (Γ : Gm) (H : Hp) (v : V) (d : Od) (Δ : Δs) (σ : SS) (H' : Hp) : Prop := ∃ (Δ0 : List Cel) (G : List Addr), Δ0.map Cel.fg = Δ ∧ HkO F (⟨G, v, d, none⟩ :: Δ0) H' ∧ (W = false → ∀ a ∈ G, H a = none) ∧ Nm Γ σ H'
theorem OkN.ok {W : Bool} {F : Fm} {Γ : Gm} {Δ : Δs} {σ : SS} {H H' : Hp} {v : V} {d : Od} (k : OkN W F Γ H v d Δ σ H') : Ok F Γ (⟨v, d, none⟩ :: Δ) σ H' := by
  obtain ⟨Δ0, G, e, k, _, n⟩ := k
  exact ⟨⟨_, by rw [List.map_cons, e]; rfl, k⟩, n⟩
theorem Ok.add {W : Bool} {F : Fm} {Γ : Gm} {Δ : Δs} {σ : SS} {H H' : Hp} (k : Ok F Γ Δ σ H) (g : Gr H H') {G : List Addr} {v : V} {d : Od} (nd : G.Nodup) (new : ∀ a ∈ G, H a = none) (h : d.pr G H' v) : OkN W F Γ H v d Δ σ H' := by
  obtain ⟨⟨Δ0, e, hk⟩, n⟩ := k
  exact ⟨Δ0, G, e, hk.add g nd new h, fun _ => new, n.mono g.fzs⟩
end L3
end
section
set_option Elab.async false
set_option linter.all false
set_option maxRecDepth 100000
set_option maxHeartbeats 4000000
set_option autoImplicit true
namespace L3
open PySem PySem.Spec PyProof.Rows L2

/-! ### mirrors -/
def grd {γ : Type} (c : Prop) [Decidable c] (x : Option γ) : Option γ := if c then x else none
theorem grd_some {γ : Type} {c : Prop} [Decidable c] {x : Option γ} {g : γ} (h : grd c x = some g) : c ∧ x = some g := by
  unfold grd at h
  by_cases q : c
  · rw [if_pos q] at h; exact ⟨q, h⟩
  · rw [if_neg q] at h; cases h
theorem bind_some {α γ : Type} {m : Option α} {k : α → Option γ} {g : γ} (h : m.bind k = some g) : ∃ a, m = some a ∧ k a = some g := by
  cases m with
  | none => cases h
  | some a => exact ⟨a, rfl, h⟩

/-- from one heap to the next: what never changes stands; W says whether cells may have been written -/
structure St (W : Bool) (H H' : Hp) : Prop where
  fz : Fzs H H'
  kp : W = false → Gr H H'
  dom : ∀ a o, H a = some o → ∃ u, H' a = some u
theorem St.refl {W : Bool} (H : Hp) : St W H H := ⟨Fzs.refl H, fun _ => Gr.refl H, fun _ o h => ⟨o, h⟩⟩
theorem St.trans {W : Bool} {H H1 H2 : Hp} (a : St W H H1) (b : St W H1 H2) : St W H H2 := ⟨a.fz.trans b.fz, fun n => (a.kp n).trans (b.kp n), fun x o h => by
  obtain ⟨u, e⟩ := a.dom x o h
  exact b.dom x u e⟩
theorem St.back {W : Bool} {H H' : Hp} (s : St W H H') {a : Addr} (h : H' a = none) : H a = none := by
  cases e : H a with
  | none => rfl
  | some o =>
    obtain ⟨u, q⟩ := s.dom a o e
    rw [h] at q; cases q
theorem Gr.st {W : Bool} {H H' : Hp} (g : Gr H H') : St W H H' := ⟨g.fzs, fun _ => g, fun a o h => ⟨o, g a o h⟩⟩
theorem St.gr {H H' : Hp} (s : St false H H') : Gr H H' := s.kp rfl
theorem OkN.since {F : Fm} {Γ : Gm} {Δ : Δs} {σ : SS} {H0 H H' : Hp} {v : V} {d : Od} {W : Bool} (k : OkN W F Γ H v d Δ σ H') (s : St W H0 H) : OkN W F Γ H0 v d Δ σ H' := by
  obtain ⟨Δ0, G, e, k, nw, n⟩ := k
  exact ⟨Δ0, G, e, k, fun hw a ha => s.back (nw hw a ha), n⟩
/-! ### judgements -/
def tE {β γ : Type} (W : Bool) (F : Fm) (Γ : Gm) (Δ : Δs) (T : Option γ) (k : β → Option γ) (E : β → Pd) (Δ' : β → Δs) : TE := fun σ H Q =>
  Ok F Γ Δ σ H ∧ ∃ g, T = some g ∧ ∀ b v H', k b = some g → St W H H' → Ok F Γ (Δ' b) σ H' → (E b).pr H' v → Q v H'
def tO {β γ : Type} (W : Bool) (F : Fm) (Γ : Gm) (Δ : Δs) (T : Option γ) (k : β → Option γ) (D : β → Od) (Δ' : β → Δs) : TE := fun σ H Q =>
  Ok F Γ Δ σ H ∧ ∃ g, T = some g ∧ ∀ b v H', k b = some g → St W H H' → OkN W F Γ H v (D b) (Δ' b) σ H' → Q v H'
def tAr {β γ : Type} (W : Bool) (F : Fm) (Γ : Gm) (Δ : Δs) (T : Option γ) (k : β → Option γ) (Es : β → List Pd) (Δ' : β → Δs) : TA := fun σ H Q =>
  Ok F Γ Δ σ H ∧ ∃ g, T = some g ∧ ∀ b vs H', k b = some g → St W H H' → Ok F Γ (Δ' b) σ H' → Paired (fun p v => Pd.pr p H' v) (Es b) vs → Q vs H'
def tTs {β γ : Type} (W : Bool) (F : Fm) (Γ : Gm) (Δ : Δs) (T : Option γ) (k : β → Option γ) (c : β → Bool) (Δ' : β → Δs) : TT := fun σ H Q =>
  Ok F Γ Δ σ H ∧ ∃ g, T = some g ∧ ∀ b H', k b = some g → St W H H' → Ok F Γ (Δ' b) σ H' → Q (c b) H'
/-- what the mirror's end says of a block's end -/
structure Fn (γ : Type) where
  fin : Hp → γ → Ends → Prop
  mono : ∀ {H H' : Hp} {g : γ} {D : Ends}, fin H g D → Fzs H H' → fin H' g D
def tS {γ : Type} (F : Fm) (Γ : Gm) (Δ : Δs) (N : Fn γ) (T : Option γ) : TS := fun D σ H => Ok F Γ Δ σ H ∧ ∃ g, T = some g ∧ N.fin H g D

section
variable {X : Cx}
theorem _root_.L2.PE.wk {e : Expr} {t t' : TE} (h : PE X e t) (w : ∀ σ H Q, t' σ H Q → t σ H Q) : PE X e t' := ⟨fun pins s σ H Q I q => h.run pins s σ H Q I (w σ H Q q)⟩
theorem _root_.L2.PA.wk {e : List Expr} {t t' : TA} (h : PA X e t) (w : ∀ σ H Q, t' σ H Q → t σ H Q) : PA X e t' := ⟨fun p pins s σ H Q I q => h.run p pins s σ H Q I (w σ H Q q)⟩
theorem _root_.L2.PT.wk {e : Expr} {t t' : TT} (h : PT X e t) (w : ∀ σ H Q, t' σ H Q → t σ H Q) : PT X e t' := ⟨fun pins s σ H Q I q => h.run pins s σ H Q I (w σ H Q q)⟩
theorem _root_.L2.PW.wk {e : Expr} {t t' : TT} (h : PW X e t) (w : ∀ σ H Q, t' σ H Q → t σ H Q) : PW X e t' := ⟨fun wh pins s σ H Q I q => h.run wh pins s σ H Q I (w σ H Q q)⟩
theorem _root_.L2.PSs.wk {e : List Stmt} {t t' : TS} (h : PSs X e t) (w : ∀ D σ H, t' D σ H → t D σ H) : PSs X e t' := ⟨fun pins s σ H D I q => h.run pins s σ H D I (w D σ H q)⟩
theorem _root_.L2.PS.wk {e : Stmt} {t t' : TS} (h : PS X e t) (w : ∀ D σ H, t' D σ H → t D σ H) : PS X e t' := ⟨fun pins s σ H D I q => h.run pins s σ H D I (w D σ H q)⟩
theorem pe_ex {β : Type} {e : Expr} {t : β → TE} (h : ∀ b, PE X e (t b)) : PE X e (fun σ H Q => ∃ b, t b σ H Q) := ⟨fun pins s σ H Q I ⟨b, q⟩ => (h b).run pins s σ H Q I q⟩
theorem pa_ex {β : Type} {e : List Expr} {t : β → TA} (h : ∀ b, PA X e (t b)) : PA X e (fun σ H Q => ∃ b, t b σ H Q) := ⟨fun p pins s σ H Q I ⟨b, q⟩ => (h b).run p pins s σ H Q I q⟩
theorem pt_ex {β : Type} {e : Expr} {t : β → TT} (h : ∀ b, PT X e (t b)) : PT X e (fun σ H Q => ∃ b, t b σ H Q) := ⟨fun pins s σ H Q I ⟨b, q⟩ => (h b).run pins s σ H Q I q⟩
theorem pw_ex {β : Type} {e : Expr} {t : β → TT} (h : ∀ b, PW X e (t b)) : PW X e (fun σ H Q => ∃ b, t b σ H Q) := ⟨fun wh pins s σ H Q I ⟨b, q⟩ => (h b).run wh pins s σ H Q I q⟩
theorem pss_ex {β : Type} {e : List Stmt} {t : β → TS} (h : ∀ b, PSs X e (t b)) : PSs X e (fun D σ H => ∃ b, t b D σ H) := ⟨fun pins s σ H D I ⟨b, q⟩ => (h b).run pins s σ H D I q⟩

variable {W : Bool} {F : Fm} {Γ : Gm} {Δ : Δs} {γ : Type}

/-! ### names, constants -/
theorem x_var (i : Nat) {x : Str} {pos : Pos} {p : Pd} {k : Unit → Option γ} (h : Γ[i]? = some (some p) := by rfl) (hN : X.N[i]? = some x := by rfl) (hv : Vis X.env.scope x := by first | exact Or.inl rfl | exact Or.inr (Or.inl rfl) | exact Or.inr (Or.inr rfl))
    (hd : (x == ("__debug__" : Str)) = false := by decide) (hcd : (x == ("__classdict__" : Str)) = false := by decide) : PE X (.Name x pos) (tE W F Γ Δ (k ()) k (fun _ => p) fun _ => Δ) :=
  (pe_var hN hv hd hcd).wk fun σ H Q ⟨ok, g, e, q⟩ => by
    obtain ⟨v, hs, hp⟩ := ok.gam i p h
    exact ⟨v, hs, q () v H e (St.refl H) ok hp⟩
theorem x_c {e : Expr} {v : V} {p : Pd} {k : Unit → Option γ} (he : PE X e (tC v)) (hp : ∀ H, p.pr H v) : PE X e (tE W F Γ Δ (k ()) k (fun _ => p) fun _ => Δ) :=
  he.wk fun σ H Q ⟨ok, g, e, q⟩ => q () v H e (St.refl H) ok (hp H)
theorem x_int {i : Int} {j pos} {k : Unit → Option γ} : PE X (.Constant (.int i) j pos) (tE W F Γ Δ (k ()) k (fun _ => pInt i) fun _ => Δ) := x_c pe_int fun _ => rfl
theorem x_bl {i : Bool} {j pos} {k : Unit → Option γ} : PE X (.Constant (.bool i) j pos) (tE W F Γ Δ (k ()) k (fun _ => pBl i) fun _ => Δ) := x_c pe_bl fun _ => rfl
theorem x_str {i : Str} {j pos} {k : Unit → Option γ} : PE X (.Constant (.str i) j pos) (tE W F Γ Δ (k ()) k (fun _ => pStr i) fun _ => Δ) := x_c pe_str fun _ => rfl
theorem x_non {j pos} {k : Unit → Option γ} : PE X (.Constant .none j pos) (tE W F Γ Δ (k ()) k (fun _ => pNon) fun _ => Δ) := x_c pe_non fun _ => rfl
/-- the value's kind said otherwise -/
theorem x_co {β : Type} {e : Expr} {T : Option γ} {k : β → Option γ} {E : β → Pd} {Δ' : β → Δs} (E' : β → Pd) (he : PE X e (tE W F Γ Δ T k E Δ')) (h : ∀ b H v, (E b).pr H v → (E' b).pr H v) : PE X e (tE W F Γ Δ T k E' Δ') :=
  he.wk fun σ H Q ⟨ok, g, e, q⟩ => ⟨ok, g, e, fun b v H' kb f ok' hv => q b v H' kb f ok' (h b H' v hv)⟩

/-! ### two operands -/
def Bin2 (X : Cx) (e a b : Expr) (r : R2) : Prop := ∀ ta tb, PE X a ta → PE X b tb → PE X e (tOp r ta tb)
theorem b_op {op : Operator} {r : R2} {a b : Expr} {pos : Pos} (ho : OpR X (binaryOp op) r) : Bin2 X (.BinOp a op b pos) a b r := fun _ _ ha hb => pe_op ho ha hb
theorem b_cmp {op : CmpOp} {r : R2} {a b : Expr} {pos : Pos} (ho : OpR X (compareOp op) r) (hm : behindInMarks op b = false) : Bin2 X (.Compare a [op] [b] pos) a b r := fun _ _ ha hb => pe_cmpR ho ha hb hm
theorem b_ix {r : R2} {a b : Expr} {pos : Pos} (ho : IxR X r) (hs : PlainIx b) : Bin2 X (.Subscript a b pos) a b r := fun _ _ ha hb => pe_ix ho ha hb hs
section
variable {e a b : Expr} {r : R2} {β1 β2 : Type} {T : Option γ} {k1 : β1 → Option γ} {k2 : β1 → β2 → Option γ} {E1 : β1 → Pd} {E2 : β1 → β2 → Pd} {Δ1 : β1 → Δs} {Δ2 : β1 → β2 → Δs}
/-- the common part -/
theorem x2_core {t' : TE} (h2 : Bin2 X e a b r) (ha : PE X a (tE W F Γ Δ T k1 E1 Δ1)) (hb : ∀ b1, PE X b (tE W F Γ (Δ1 b1) (k1 b1) (k2 b1) (E2 b1) (Δ2 b1)))
    (hw : ∀ σ H Q, t' σ H Q → Ok F Γ Δ σ H ∧ ∃ g, T = some g ∧ ∀ b1 b2 v w H2, k2 b1 b2 = some g → St W H H2 → Ok F Γ (Δ2 b1 b2) σ H2 → (E1 b1).pr H2 v → (E2 b1 b2).pr H2 w → r v w H2 Q) : PE X e t' :=
  (h2 _ _ ha (pe_ex hb)).wk fun σ H Q h => by
    obtain ⟨ok, g, e, q⟩ := hw σ H Q h
    exact ⟨ok, g, e, fun b1 v H1 kb f1 ok1 hv => ⟨b1, ok1, g, kb, fun b2 w H2 kb2 f2 ok2 hw => q b1 b2 v w H2 kb2 (f1.trans f2) ok2 ((E1 b1).mono f2.fz hv) hw⟩⟩
/-- the operation always goes, and lays nothing -/
theorem x2t {E : β1 × β2 → Pd} {k : β1 × β2 → Option γ} (h2 : Bin2 X e a b r) (ha : PE X a (tE W F Γ Δ T k1 E1 Δ1)) (hb : ∀ b1, PE X b (tE W F Γ (Δ1 b1) (k1 b1) (fun b2 => k (b1, b2)) (E2 b1) (Δ2 b1)))
    (hv : ∀ b1 b2 σ v w H Q, Ok F Γ (Δ2 b1 b2) σ H → (E1 b1).pr H v → (E2 b1 b2).pr H w → (∀ u, (E (b1, b2)).pr H u → Q u H) → r v w H Q) : PE X e (tE W F Γ Δ T k E fun b => Δ2 b.1 b.2) :=
  x2_core h2 ha hb fun σ H Q ⟨ok, g, e, q⟩ => ⟨ok, g, e, fun b1 b2 v w H2 kb f ok2 hv1 hv2 => hv b1 b2 σ v w H2 Q ok2 hv1 hv2 fun u hu => q (b1, b2) u H2 kb f ok2 hu⟩
/-- .. under a condition -/
theorem x2g {E : β1 × β2 → Pd} {k : β1 × β2 → Option γ} {c : β1 → β2 → Prop} [∀ b1 b2, Decidable (c b1 b2)] (h2 : Bin2 X e a b r) (ha : PE X a (tE W F Γ Δ T k1 E1 Δ1)) (hb : ∀ b1, PE X b (tE W F Γ (Δ1 b1) (k1 b1) (fun b2 => grd (c b1 b2) (k (b1, b2))) (E2 b1) (Δ2 b1)))
    (hv : ∀ b1 b2 σ v w H Q, Ok F Γ (Δ2 b1 b2) σ H → c b1 b2 → (E1 b1).pr H v → (E2 b1 b2).pr H w → (∀ u, (E (b1, b2)).pr H u → Q u H) → r v w H Q) : PE X e (tE W F Γ Δ T k E fun b => Δ2 b.1 b.2) :=
  x2_core h2 ha hb fun σ H Q ⟨ok, g, e, q⟩ => ⟨ok, g, e, fun b1 b2 v w H2 kb f ok2 hv1 hv2 => hv b1 b2 σ v w H2 Q ok2 (grd_some kb).1 hv1 hv2 fun u hu => q (b1, b2) u H2 (grd_some kb).2 f ok2 hu⟩
/-- .. with what is found -/
theorem x2p {β3 : Type} {E : (β1 × β2) × β3 → Pd} {k : (β1 × β2) × β3 → Option γ} {m : β1 → β2 → Option β3} (h2 : Bin2 X e a b r) (ha : PE X a (tE W F Γ Δ T k1 E1 Δ1))
    (hb : ∀ b1, PE X b (tE W F Γ (Δ1 b1) (k1 b1) (fun b2 => (m b1 b2).bind fun b3 => k ((b1, b2), b3)) (E2 b1) (Δ2 b1)))
    (hv : ∀ b1 b2 b3 σ v w H Q, Ok F Γ (Δ2 b1 b2) σ H → m b1 b2 = some b3 → (E1 b1).pr H v → (E2 b1 b2).pr H w → (∀ u, (E ((b1, b2), b3)).pr H u → Q u H) → r v w H Q) : PE X e (tE W F Γ Δ T k E fun b => Δ2 b.1.1 b.1.2) :=
  x2_core h2 ha hb fun σ H Q ⟨ok, g, e, q⟩ => ⟨ok, g, e, fun b1 b2 v w H2 kb f ok2 hv1 hv2 => by
    obtain ⟨b3, e3, kb3⟩ := bind_some kb
    exact hv b1 b2 b3 σ v w H2 Q ok2 e3 hv1 hv2 fun u hu => q ((b1, b2), b3) u H2 kb3 f ok2 hu⟩
end
/-! ### comparisons as tests -/
def Bin2T (X : Cx) (e a b : Expr) (r : R2) : Prop := ∀ ta tb, PE X a ta → PE X b tb → PT X e (tTest (tOp r ta tb))
theorem bt_cmp {op : CmpOp} {r : R2} {a b : Expr} {pos : Pos} (ho : OpR X (compareOp op) r) (hm : behindInMarks op b = false) : Bin2T X (.Compare a [op] [b] pos) a b r := fun _ _ ha hb => pt_cmpR ho ha hb hm
section
variable {e a b : Expr} {r : R2} {β1 β2 : Type} {T : Option γ} {k1 : β1 → Option γ} {k2 : β1 → β2 → Option γ} {E1 : β1 → Pd} {E2 : β1 → β2 → Pd} {Δ1 : β1 → Δs} {Δ2 : β1 → β2 → Δs}
theorem t2_core {t' : TT} (h2 : Bin2T X e a b r) (ha : PE X a (tE W F Γ Δ T k1 E1 Δ1)) (hb : ∀ b1, PE X b (tE W F Γ (Δ1 b1) (k1 b1) (k2 b1) (E2 b1) (Δ2 b1)))
    (hw : ∀ σ H Q, t' σ H Q → Ok F Γ Δ σ H ∧ ∃ g, T = some g ∧ ∀ b1 b2 v w H2, k2 b1 b2 = some g → St W H H2 → Ok F Γ (Δ2 b1 b2) σ H2 → (E1 b1).pr H2 v → (E2 b1 b2).pr H2 w → r v w H2 (fun x H' => ∃ k, x = .bl k ∧ Q k H')) : PT X e t' :=
  (h2 _ _ ha (pe_ex hb)).wk fun σ H Q h => by
    obtain ⟨ok, g, e, q⟩ := hw σ H Q h
    exact ⟨ok, g, e, fun b1 v H1 kb f1 ok1 hv => ⟨b1, ok1, g, kb, fun b2 w H2 kb2 f2 ok2 hw => q b1 b2 v w H2 kb2 (f1.trans f2) ok2 ((E1 b1).mono f2.fz hv) hw⟩⟩
theorem t2t {c : β1 × β2 → Bool} {k : β1 × β2 → Option γ} (h2 : Bin2T X e a b r) (ha : PE X a (tE W F Γ Δ T k1 E1 Δ1)) (hb : ∀ b1, PE X b (tE W F Γ (Δ1 b1) (k1 b1) (fun b2 => k (b1, b2)) (E2 b1) (Δ2 b1)))
    (hv : ∀ b1 b2 σ v w H Q, Ok F Γ (Δ2 b1 b2) σ H → (E1 b1).pr H v → (E2 b1 b2).pr H w → (∀ u, (pBl (c (b1, b2))).pr H u → Q u H) → r v w H Q) : PT X e (tTs W F Γ Δ T k c fun b => Δ2 b.1 b.2) :=
  t2_core h2 ha hb fun σ H Q ⟨ok, g, e, q⟩ => ⟨ok, g, e, fun b1 b2 v w H2 kb f ok2 hv1 hv2 => hv b1 b2 σ v w H2 _ ok2 hv1 hv2 fun u hu => ⟨c (b1, b2), hu, q (b1, b2) H2 kb f ok2⟩⟩
end
/-! ### ints -/
section
variable {a b : Expr} {pos : Pos} {β1 β2 : Type} {T : Option γ} {k1 : β1 → Option γ} {k : β1 × β2 → Option γ} {Δ1 : β1 → Δs} {Δ2 : β1 → β2 → Δs} {i : β1 → Int} {j : β1 → β2 → Int}
theorem x_add (ha : PE X a (tE W F Γ Δ T k1 (fun b => pInt (i b)) Δ1)) (hb : ∀ b1, PE X b (tE W F Γ (Δ1 b1) (k1 b1) (fun b2 => k (b1, b2)) (fun b => pInt (j b1 b)) (Δ2 b1))) :
    PE X (.BinOp a .Add b pos) (tE W F Γ Δ T k (fun b => pInt (i b.1 + j b.1 b.2)) fun b => Δ2 b.1 b.2) :=
  x2t (b_op op_add) ha hb fun b1 b2 _ v w H Q _ hv hw q => ⟨i b1, j b1 b2, hv, hw, q _ rfl⟩
theorem x_sub (ha : PE X a (tE W F Γ Δ T k1 (fun b => pInt (i b)) Δ1)) (hb : ∀ b1, PE X b (tE W F Γ (Δ1 b1) (k1 b1) (fun b2 => k (b1, b2)) (fun b => pInt (j b1 b)) (Δ2 b1))) :
    PE X (.BinOp a .Sub b pos) (tE W F Γ Δ T k (fun b => pInt (i b.1 - j b.1 b.2)) fun b => Δ2 b.1 b.2) :=
  x2t (b_op op_sub) ha hb fun b1 b2 _ v w H Q _ hv hw q => ⟨i b1, j b1 b2, hv, hw, q _ rfl⟩
/-- within 64 bits -/
def sm (i : Int) : Bool := decide (-(2 ^ 64) < i) && decide (i < 2 ^ 64)
theorem sm_ok {i : Int} (h : sm i = true) : -(2 ^ 64) < i ∧ i < 2 ^ 64 := by
  obtain ⟨a, b⟩ := Bool.and_eq_true_iff.mp h
  exact ⟨of_decide_eq_true a, of_decide_eq_true b⟩
theorem x_mul (ha : PE X a (tE W F Γ Δ T k1 (fun b => pInt (i b)) Δ1)) (hb : ∀ b1, PE X b (tE W F Γ (Δ1 b1) (k1 b1) (fun b2 => grd ((sm (i b1) || sm (j b1 b2)) = true) (k (b1, b2))) (fun b => pInt (j b1 b)) (Δ2 b1))) :
    PE X (.BinOp a .Mult b pos) (tE W F Γ Δ T k (fun b => pInt (i b.1 * j b.1 b.2)) fun b => Δ2 b.1 b.2) :=
  x2g (b_op op_mul) ha hb fun b1 b2 _ v w H Q _ c hv hw q => ⟨i b1, j b1 b2, hv, hw, by
    rcases Bool.or_eq_true_iff.mp c with h | h
    · exact .inl (sm_ok h)
    · exact .inr (sm_ok h), q _ rfl⟩
theorem x_mod (ha : PE X a (tE W F Γ Δ T k1 (fun b => pInt (i b)) Δ1)) (hb : ∀ b1, PE X b (tE W F Γ (Δ1 b1) (k1 b1) (fun b2 => grd (0 < j b1 b2) (k (b1, b2))) (fun b => pInt (j b1 b)) (Δ2 b1))) :
    PE X (.BinOp a .Mod b pos) (tE W F Γ Δ T k (fun b => pInt (i b.1 % j b.1 b.2)) fun b => Δ2 b.1 b.2) :=
  x2g (b_op op_mod) ha hb fun b1 b2 _ v w H Q _ c hv hw q => ⟨i b1, j b1 b2, hv, hw, c, q _ rfl⟩
def dv (j : Int) : Bool := decide (0 < j) && decide (j < 1073741824)
theorem x_fdiv (ha : PE X a (tE W F Γ Δ T k1 (fun b => pInt (i b)) Δ1)) (hb : ∀ b1, PE X b (tE W F Γ (Δ1 b1) (k1 b1) (fun b2 => grd (dv (j b1 b2) = true) (k (b1, b2))) (fun b => pInt (j b1 b)) (Δ2 b1))) :
    PE X (.BinOp a .FloorDiv b pos) (tE W F Γ Δ T k (fun b => pInt (i b.1 / j b.1 b.2)) fun b => Δ2 b.1 b.2) :=
  x2g (b_op op_fdiv) ha hb fun b1 b2 _ v w H Q _ c hv hw q => ⟨i b1, j b1 b2, hv, hw, by
    obtain ⟨h1, h2⟩ := Bool.and_eq_true_iff.mp c
    exact ⟨of_decide_eq_true h1, of_decide_eq_true h2⟩, q _ rfl⟩
theorem x_pow (ha : PE X a (tE W F Γ Δ T k1 (fun b => pInt (i b)) Δ1)) (hb : ∀ b1, PE X b (tE W F Γ (Δ1 b1) (k1 b1) (fun b2 => k (b1, b2)) (fun b => pInt (j b1 b)) (Δ2 b1))) (hc : ∀ b1 b2, 0 ≤ j b1 b2 ∧ j b1 b2 ≤ 1000000 ∧ (i b1).natAbs < 2 ^ 64) :
    PE X (.BinOp a .Pow b pos) (tE W F Γ Δ T k (fun b => pInt (i b.1 ^ (j b.1 b.2).toNat)) fun b => Δ2 b.1 b.2) :=
  x2t (b_op op_pow) ha hb fun b1 b2 _ v w H Q _ hv hw q => ⟨i b1, j b1 b2, hv, hw, hc b1 b2, q _ rfl⟩
theorem x_lt (ha : PE X a (tE W F Γ Δ T k1 (fun b => pInt (i b)) Δ1)) (hb : ∀ b1, PE X b (tE W F Γ (Δ1 b1) (k1 b1) (fun b2 => k (b1, b2)) (fun b => pInt (j b1 b)) (Δ2 b1))) :
    PE X (.Compare a [.Lt] [b] pos) (tE W F Γ Δ T k (fun b => pBl (decide (i b.1 < j b.1 b.2))) fun b => Δ2 b.1 b.2) :=
  x2t (b_cmp op_lt (nomark _)) ha hb fun b1 b2 _ v w H Q _ hv hw q => ⟨i b1, j b1 b2, hv, hw, q _ rfl⟩
theorem x_le (ha : PE X a (tE W F Γ Δ T k1 (fun b => pInt (i b)) Δ1)) (hb : ∀ b1, PE X b (tE W F Γ (Δ1 b1) (k1 b1) (fun b2 => k (b1, b2)) (fun b => pInt (j b1 b)) (Δ2 b1))) :
    PE X (.Compare a [.LtE] [b] pos) (tE W F Γ Δ T k (fun b => pBl (decide (i b.1 ≤ j b.1 b.2))) fun b => Δ2 b.1 b.2) :=
  x2t (b_cmp op_le (nomark _)) ha hb fun b1 b2 _ v w H Q _ hv hw q => ⟨i b1, j b1 b2, hv, hw, q _ rfl⟩
theorem x_gt (ha : PE X a (tE W F Γ Δ T k1 (fun b => pInt (i b)) Δ1)) (hb : ∀ b1, PE X b (tE W F Γ (Δ1 b1) (k1 b1) (fun b2 => k (b1, b2)) (fun b => pInt (j b1 b)) (Δ2 b1))) :
    PE X (.Compare a [.Gt] [b] pos) (tE W F Γ Δ T k (fun b => pBl (decide (j b.1 b.2 < i b.1))) fun b => Δ2 b.1 b.2) :=
  x2t (b_cmp op_gt (nomark _)) ha hb fun b1 b2 _ v w H Q _ hv hw q => ⟨i b1, j b1 b2, hv, hw, q _ rfl⟩
theorem x_ge (ha : PE X a (tE W F Γ Δ T k1 (fun b => pInt (i b)) Δ1)) (hb : ∀ b1, PE X b (tE W F Γ (Δ1 b1) (k1 b1) (fun b2 => k (b1, b2)) (fun b => pInt (j b1 b)) (Δ2 b1))) :
    PE X (.Compare a [.GtE] [b] pos) (tE W F Γ Δ T k (fun b => pBl (decide (j b.1 b.2 ≤ i b.1))) fun b => Δ2 b.1 b.2) :=
  x2t (b_cmp op_ge (nomark _)) ha hb fun b1 b2 _ v w H Q _ hv hw q => ⟨i b1, j b1 b2, hv, hw, q _ rfl⟩
theorem x_eqI (ha : PE X a (tE W F Γ Δ T k1 (fun b => pInt (i b)) Δ1)) (hb : ∀ b1, PE X b (tE W F Γ (Δ1 b1) (k1 b1) (fun b2 => k (b1, b2)) (fun b => pInt (j b1 b)) (Δ2 b1))) :
    PE X (.Compare a [.Eq] [b] pos) (tE W F Γ Δ T k (fun b => pBl (decide (i b.1 = j b.1 b.2))) fun b => Δ2 b.1 b.2) :=
  x2t (b_cmp op_eq (nomark _)) ha hb fun b1 b2 _ v w H Q _ hv hw q => by
    cases hv; cases hw
    refine ⟨rfl, q _ ?_⟩
    show V.bl _ = V.bl _
    congr 1
    by_cases z : i b1 = j b1 b2
    · rw [z]; simp
    · rw [decide_eq_false z, decide_eq_false fun y => z (V.int.inj y)]
theorem x_neI (ha : PE X a (tE W F Γ Δ T k1 (fun b => pInt (i b)) Δ1)) (hb : ∀ b1, PE X b (tE W F Γ (Δ1 b1) (k1 b1) (fun b2 => k (b1, b2)) (fun b => pInt (j b1 b)) (Δ2 b1))) :
    PE X (.Compare a [.NotEq] [b] pos) (tE W F Γ Δ T k (fun b => pBl (!decide (i b.1 = j b.1 b.2))) fun b => Δ2 b.1 b.2) :=
  x2t (b_cmp op_ne (nomark _)) ha hb fun b1 b2 _ v w H Q _ hv hw q => by
    cases hv; cases hw
    refine ⟨rfl, q _ ?_⟩
    show V.bl _ = V.bl _
    congr 1
    by_cases z : i b1 = j b1 b2
    · rw [z]; simp
    · rw [decide_eq_false z, decide_eq_false fun y => z (V.int.inj y)]
theorem t_lt (ha : PE X a (tE W F Γ Δ T k1 (fun b => pInt (i b)) Δ1)) (hb : ∀ b1, PE X b (tE W F Γ (Δ1 b1) (k1 b1) (fun b2 => k (b1, b2)) (fun b => pInt (j b1 b)) (Δ2 b1))) :
    PT X (.Compare a [.Lt] [b] pos) (tTs W F Γ Δ T k (fun b => decide (i b.1 < j b.1 b.2)) fun b => Δ2 b.1 b.2) :=
  t2t (bt_cmp op_lt (nomark _)) ha hb fun b1 b2 _ v w H Q _ hv hw q => ⟨i b1, j b1 b2, hv, hw, q _ rfl⟩
theorem t_le (ha : PE X a (tE W F Γ Δ T k1 (fun b => pInt (i b)) Δ1)) (hb : ∀ b1, PE X b (tE W F Γ (Δ1 b1) (k1 b1) (fun b2 => k (b1, b2)) (fun b => pInt (j b1 b)) (Δ2 b1))) :
    PT X (.Compare a [.LtE] [b] pos) (tTs W F Γ Δ T k (fun b => decide (i b.1 ≤ j b.1 b.2)) fun b => Δ2 b.1 b.2) :=
  t2t (bt_cmp op_le (nomark _)) ha hb fun b1 b2 _ v w H Q _ hv hw q => ⟨i b1, j b1 b2, hv, hw, q _ rfl⟩
theorem t_gt (ha : PE X a (tE W F Γ Δ T k1 (fun b => pInt (i b)) Δ1)) (hb : ∀ b1, PE X b (tE W F Γ (Δ1 b1) (k1 b1) (fun b2 => k (b1, b2)) (fun b => pInt (j b1 b)) (Δ2 b1))) :
    PT X (.Compare a [.Gt] [b] pos) (tTs W F Γ Δ T k (fun b => decide (j b.1 b.2 < i b.1)) fun b => Δ2 b.1 b.2) :=
  t2t (bt_cmp op_gt (nomark _)) ha hb fun b1 b2 _ v w H Q _ hv hw q => ⟨i b1, j b1 b2, hv, hw, q _ rfl⟩
theorem t_ge (ha : PE X a (tE W F Γ Δ T k1 (fun b => pInt (i b)) Δ1)) (hb : ∀ b1, PE X b (tE W F Γ (Δ1 b1) (k1 b1) (fun b2 => k (b1, b2)) (fun b => pInt (j b1 b)) (Δ2 b1))) :
    PT X (.Compare a [.GtE] [b] pos) (tTs W F Γ Δ T k (fun b => decide (j b.1 b.2 ≤ i b.1)) fun b => Δ2 b.1 b.2) :=
  t2t (bt_cmp op_ge (nomark _)) ha hb fun b1 b2 _ v w H Q _ hv hw q => ⟨i b1, j b1 b2, hv, hw, q _ rfl⟩
theorem t_eqI (ha : PE X a (tE W F Γ Δ T k1 (fun b => pInt (i b)) Δ1)) (hb : ∀ b1, PE X b (tE W F Γ (Δ1 b1) (k1 b1) (fun b2 => k (b1, b2)) (fun b => pInt (j b1 b)) (Δ2 b1))) :
    PT X (.Compare a [.Eq] [b] pos) (tTs W F Γ Δ T k (fun b => decide (i b.1 = j b.1 b.2)) fun b => Δ2 b.1 b.2) :=
  t2t (bt_cmp op_eq (nomark _)) ha hb fun b1 b2 _ v w H Q _ hv hw q => by
    cases hv; cases hw
    refine ⟨rfl, q _ ?_⟩
    show V.bl _ = V.bl _
    congr 1
    by_cases z : i b1 = j b1 b2
    · rw [z]; simp
    · rw [decide_eq_false z, decide_eq_false fun y => z (V.int.inj y)]
theorem t_neI (ha : PE X a (tE W F Γ Δ T k1 (fun b => pInt (i b)) Δ1)) (hb : ∀ b1, PE X b (tE W F Γ (Δ1 b1) (k1 b1) (fun b2 => k (b1, b2)) (fun b => pInt (j b1 b)) (Δ2 b1))) :
    PT X (.Compare a [.NotEq] [b] pos) (tTs W F Γ Δ T k (fun b => !decide (i b.1 = j b.1 b.2)) fun b => Δ2 b.1 b.2) :=
  t2t (bt_cmp op_ne (nomark _)) ha hb fun b1 b2 _ v w H Q _ hv hw q => by
    cases hv; cases hw
    refine ⟨rfl, q _ ?_⟩
    show V.bl _ = V.bl _
    congr 1
    by_cases z : i b1 = j b1 b2
    · rw [z]; simp
    · rw [decide_eq_false z, decide_eq_false fun y => z (V.int.inj y)]
end
end
end L3
end
section
set_option Elab.async false
set_option linter.all false
set_option maxRecDepth 100000
set_option maxHeartbeats 4000000
namespace L3
open PySem PySem.Spec PyProof.Rows L2

/-! ### cells -/
theorem flat_sub : ∀ {Δ' Δ : List Cel}, Δ'.Sublist Δ → (cellsOf Δ').Sublist (cellsOf Δ)
  | _, _, .slnil => List.Sublist.refl _
  | _, _, .cons a s => by
    rw [cellsOf_cons]
    exact (flat_sub s).trans (List.sublist_append_right _ _)
  | _, _, .cons₂ a s => by
    rw [cellsOf_cons, cellsOf_cons]
    exact (List.Sublist.refl _).append (flat_sub s)
theorem flat_perm {Δ Δ' : List Cel} (p : Δ.Perm Δ') : (cellsOf Δ).Perm (cellsOf Δ') := by
  unfold cellsOf
  exact p.flatMap_right _
theorem HkO.perm {F : Fm} {Δ Δ' : List Cel} {H : Hp} (k : HkO F Δ H) (p : Δ.Perm Δ') : HkO F Δ' H :=
  ⟨k.base, fun c hc => k.del c (p.mem_iff.mpr hc), (flat_perm p).nodup_iff.mp k.nod, fun c hc => k.own c (p.mem_iff.mpr hc), k.mem⟩
theorem HkO.less {F : Fm} {Δ Δ' : List Cel} {H : Hp} (k : HkO F Δ H) (h : Δ'.Sublist Δ) : HkO F Δ' H :=
  ⟨k.base, fun c hc => k.del c (h.subset hc), k.nod.sublist (flat_sub h), fun c hc => k.own c (h.subset hc), k.mem⟩
theorem HkO.ndup {F : Fm} {c : Cel} {Δ : List Cel} {H : Hp} (k : HkO F (c :: Δ) H) : c.G.Nodup ∧ (cellsOf Δ).Nodup ∧ ∀ a ∈ c.G, a ∉ cellsOf Δ := by
  have h := k.nod
  rw [cellsOf_cons] at h
  obtain ⟨h1, h2, h3⟩ := List.nodup_append.mp h
  exact ⟨h1, h2, fun a ha hb => h3 a ha a hb rfl⟩
/-- the first cell has changed, the others stand -/
theorem HkO.rest {F : Fm} {c : Cel} {R : List Cel} {H H' : Hp} (k : HkO F (c :: R) H) (kp : ∀ a o, a ∉ c.G → H a = some o → H' a = some o) (dm : ∀ a ∈ c.G, ∃ o, H' a = some o) : HkO F R H' ∧ Fzs H H' ∧ ∀ a o, H a = some o → ∃ u, H' a = some u := by
  have fz : Fzs H H' := fun a o p e => kp a o (fun ha => by
    obtain ⟨u, eu, nu⟩ := c.d.cellsN (k.del c List.mem_cons_self) a ha
    rw [e] at eu
    cases eu
    exact nu p) e
  have dom : ∀ a o, H a = some o → ∃ u, H' a = some u := fun a o e => by
    by_cases ha : a ∈ c.G
    · exact dm a ha
    · exact ⟨o, kp a o ha e⟩
  refine ⟨⟨fun a o e m => ?_, fun x hx => ?_, k.ndup.2.1, fun x hx => k.own x (List.mem_cons_of_mem _ hx), fun m hm a ha => ?_⟩, fz, dom⟩
  · refine kp a o (fun ha => ?_) (k.base a o e m)
    rcases k.own c List.mem_cons_self a ha with z | ⟨i, w, _, hw, z⟩
    · rw [e] at z; cases z
    · exact m w (List.mem_of_getElem? hw) z
  · exact x.d.frame (k.del x (List.mem_cons_of_mem _ hx)) (fun a ha o q => kp a o (fun hc => k.ndup.2.2 a hc (mem_cellsOf hx ha)) q) fz
  · obtain ⟨o, e⟩ := k.mem m hm a ha
    exact dom a o e
/-- .. and is of another kind now -/
theorem HkO.turn {F : Fm} {c : Cel} {R : List Cel} {H H' : Hp} {G' : List Addr} {d' : Od} (k : HkO F (c :: R) H) (kp : ∀ a o, a ∉ c.G → H a = some o → H' a = some o) (dm : ∀ a ∈ c.G, ∃ o, H' a = some o) (nd : G'.Nodup) (sb : ∀ a ∈ G', a ∈ c.G ∨ H a = none) (new : d'.pr G' H' c.v) :
    HkO F (⟨G', c.v, d', c.prm⟩ :: R) H' ∧ Fzs H H' ∧ ∀ a o, H a = some o → ∃ u, H' a = some u := by
  obtain ⟨r, fz, dom⟩ := k.rest kp dm
  refine ⟨r.cons (c := ⟨G', c.v, d', c.prm⟩) nd (fun a ha hb => ?_) new (fun a ha => ?_), fz, dom⟩
  · rcases sb a ha with h | h
    · exact k.ndup.2.2 a h hb
    · obtain ⟨o, e, _⟩ := k.isC (a := a) (by rw [cellsOf_cons]; exact List.mem_append_right _ hb)
      rw [h] at e; cases e
  · rcases sb a ha with h | h
    · exact k.own c List.mem_cons_self a h
    · exact .inl (k.fresh0 h)
theorem map_at {Δ0 : List Cel} {j : Nat} {c : Cell} (h : (Δ0.map Cel.fg)[j]? = some c) : ∃ A x B, Δ0 = A ++ x :: B ∧ A.length = j ∧ x.fg = c := by
  rw [List.getElem?_map] at h
  cases e : Δ0[j]? with
  | none => rw [e] at h; cases h
  | some x =>
    rw [e] at h
    have hl : j < Δ0.length := by
      by_cases hl : j < Δ0.length
      · exact hl
      · rw [List.getElem?_eq_none (by omega)] at e; cases e
    refine ⟨Δ0.take j, x, Δ0.drop (j + 1), ?_, by rw [List.length_take]; omega, by simpa using h⟩
    rw [List.getElem?_eq_getElem hl] at e
    cases e
    rw [← List.drop_eq_getElem_cons hl, List.take_append_drop]
theorem mid_perm {A B : List Cel} {x : Cel} : (A ++ x :: B).Perm (x :: (A ++ B)) := List.perm_middle
theorem map_set {A B : List Cel} {x y : Cel} : (A ++ y :: B).map Cel.fg = ((A ++ x :: B).map Cel.fg).set A.length y.fg := by
  simp
theorem map_erase {A B : List Cel} {x : Cel} : (A ++ B).map Cel.fg = ((A ++ x :: B).map Cel.fg).eraseIdx A.length := by
  rw [List.map_append, List.map_append, List.map_cons, List.eraseIdx_append_of_length_le (by rw [List.length_map]; exact Nat.le_refl _), List.length_map, Nat.sub_self]
  rfl
section
variable {F : Fm} {Γ : Gm} {Δ : Δs} {σ : SS} {H : Hp} {j : Nat} {c : Cell}
/-- a cell: what it is, and how it may change (its places, too) -/
theorem Ok.cellG (k : Ok F Γ Δ σ H) (hj : Δ[j]? = some c) : ∃ G, c.d.pr G H c.v ∧ G.Nodup ∧ ∀ H' d' G', (∀ a o, a ∉ G → H a = some o → H' a = some o) → (∀ a ∈ G, ∃ o, H' a = some o) → G'.Nodup → (∀ a ∈ G', a ∈ G ∨ H a = none) → d'.pr G' H' c.v →
    Ok F Γ (Δ.set j { c with d := d' }) σ H' ∧ St true H H' := by
  obtain ⟨⟨Δ0, e, k⟩, n⟩ := k
  subst e
  obtain ⟨A, x, B, e0, el, ex⟩ := map_at hj
  subst e0
  subst ex
  have k1 := k.perm mid_perm
  refine ⟨x.G, k1.del x List.mem_cons_self, k1.ndup.1, fun H' d' G' kp dm nd sb new => ?_⟩
  obtain ⟨k2, fz, dom⟩ := k1.turn kp dm nd sb new
  refine ⟨⟨⟨A ++ ⟨G', x.v, d', x.prm⟩ :: B, ?_, k2.perm mid_perm.symm⟩, n.mono fz⟩, fz, (fun h => nomatch h), dom⟩
  rw [← el]
  exact map_set
theorem Ok.cell (k : Ok F Γ Δ σ H) (hj : Δ[j]? = some c) : ∃ G, c.d.pr G H c.v ∧ G.Nodup ∧ ∀ H' d', (∀ a o, a ∉ G → H a = some o → H' a = some o) → d'.pr G H' c.v → Ok F Γ (Δ.set j { c with d := d' }) σ H' ∧ St true H H' := by
  obtain ⟨G, p, nd, t⟩ := k.cellG hj
  exact ⟨G, p, nd, fun H' d' kp new => t H' d' G kp (fun a ha => by
    obtain ⟨o, e, _⟩ := d'.cellsN new a ha
    exact ⟨o, e⟩) nd (fun a ha => .inl ha) new⟩
theorem Ok.at (k : Ok F Γ Δ σ H) (hj : Δ[j]? = some c) : ∃ G, c.d.pr G H c.v := by
  obtain ⟨G, p, _⟩ := k.cell hj
  exact ⟨G, p⟩
theorem Hk.at (k : Hk F Δ H) (hj : Δ[j]? = some c) : ∃ G, c.d.pr G H c.v := by
  obtain ⟨Δ0, e, k⟩ := k
  subst e
  obtain ⟨A, x, B, e0, el, ex⟩ := map_at hj
  subst e0
  subst ex
  exact ⟨x.G, k.del x (by simp)⟩
/-- a new thing is put into a cell -/
theorem OkN.absorb {W : Bool} {H0 : Hp} {v : V} {d : Od} (k : OkN W F Γ H0 v d Δ σ H) (hj : Δ[j]? = some c) : ∃ G Gn, c.d.pr G H c.v ∧ d.pr Gn H v ∧ (G ++ Gn).Nodup ∧ ∀ H' d' G', (∀ a o, a ∉ G → a ∉ Gn → H a = some o → H' a = some o) → (∀ a, a ∈ G ∨ a ∈ Gn → ∃ o, H' a = some o) → G'.Nodup → (∀ a ∈ G', (a ∈ G ∨ a ∈ Gn) ∨ H a = none) → d'.pr G' H' c.v →
    Ok F Γ (Δ.set j { c with d := d' }) σ H' ∧ Fzs H H' ∧ ∀ a o, H a = some o → ∃ u, H' a = some u := by
  obtain ⟨Δ0, Gn, e, k, nw, n⟩ := k
  subst e
  obtain ⟨A, x, B, e0, el, ex⟩ := map_at hj
  subst e0
  subst ex
  have k1 : HkO F (x :: ⟨Gn, v, d, none⟩ :: (A ++ B)) H := k.perm ((mid_perm (x := x)).cons _ |>.trans (.swap _ _ _))
  have nd1 := k1.ndup
  have nd2 := (k1.less (.cons _ (List.Sublist.refl _))).ndup
  have nod : (x.G ++ Gn).Nodup := List.nodup_append.mpr ⟨nd1.1, nd2.1, fun a ha b hb e => by
    subst e
    exact nd1.2.2 a ha (by rw [cellsOf_cons]; exact List.mem_append_left _ hb)⟩
  refine ⟨x.G, Gn, k1.del x List.mem_cons_self, k1.del ⟨Gn, v, d, none⟩ (List.mem_cons_of_mem _ List.mem_cons_self), nod, fun H' d' G' kp dm nd sb new => ?_⟩
  have fz : Fzs H H' := fun a o p e => by
    have hn : ∀ y ∈ (x :: ⟨Gn, v, d, none⟩ :: (A ++ B)), a ∉ y.G := fun y hy ha => by
      obtain ⟨u, eu, nu⟩ := y.d.cellsN (k1.del y hy) a ha
      rw [e] at eu
      cases eu
      exact nu p
    exact kp a o (hn x List.mem_cons_self) (hn ⟨Gn, v, d, none⟩ (List.mem_cons_of_mem _ List.mem_cons_self)) e
  have dom : ∀ a o, H a = some o → ∃ u, H' a = some u := fun a o e => by
    by_cases h1 : a ∈ x.G
    · exact dm a (.inl h1)
    · by_cases h2 : a ∈ Gn
      · exact dm a (.inr h2)
      · exact ⟨o, kp a o h1 h2 e⟩
  have r : HkO F (A ++ B) H' := by
    refine ⟨fun a o e m => ?_, fun y hy => ?_, nd2.2.1, fun y hy => k1.own y (List.mem_cons_of_mem _ (List.mem_cons_of_mem _ hy)), fun m hm a ha => ?_⟩
    · have hno : ∀ y ∈ (x :: ⟨Gn, v, d, none⟩ :: (A ++ B)), a ∉ y.G := fun y hy ha => by
        rcases k1.own y hy a ha with z | ⟨i, w, _, hw, z⟩
        · rw [e] at z; cases z
        · exact m w (List.mem_of_getElem? hw) z
      exact kp a o (hno x List.mem_cons_self) (hno ⟨Gn, v, d, none⟩ (List.mem_cons_of_mem _ List.mem_cons_self)) (k1.base a o e m)
    · refine y.d.frame (k1.del y (List.mem_cons_of_mem _ (List.mem_cons_of_mem _ hy))) (fun a ha o q => kp a o (fun hc => ?_) (fun hc => ?_) q) fz
      · exact nd1.2.2 a hc (by rw [cellsOf_cons]; exact List.mem_append_right _ (mem_cellsOf hy ha))
      · exact nd2.2.2 a hc (mem_cellsOf hy ha)
    · obtain ⟨o, e⟩ := k1.mem m hm a ha
      exact dom a o e
  have fin : HkO F (⟨G', x.v, d', x.prm⟩ :: (A ++ B)) H' := r.cons (c := ⟨G', x.v, d', x.prm⟩) nd (fun a ha hb => by
      rcases sb a ha with (h | h) | h
      · exact nd1.2.2 a h (by rw [cellsOf_cons]; exact List.mem_append_right _ hb)
      · exact nd2.2.2 a h hb
      · obtain ⟨o, e, _⟩ := k1.isC (a := a) (by rw [cellsOf_cons, cellsOf_cons]; exact List.mem_append_right _ (List.mem_append_right _ hb))
        rw [h] at e; cases e) new fun a ha => by
      rcases sb a ha with (h | h) | h
      · exact k1.own x List.mem_cons_self a h
      · rcases k1.own ⟨Gn, v, d, none⟩ (List.mem_cons_of_mem _ List.mem_cons_self) a h with z | ⟨i, m, z, _⟩
        · exact .inl z
        · cases z
      · exact .inl (k1.fresh0 h)
  refine ⟨⟨⟨A ++ ⟨G', x.v, d', x.prm⟩ :: B, ?_, fin.perm mid_perm.symm⟩, n.mono fz⟩, fz, dom⟩
  rw [← el]
  exact map_set
end
/-! ### locks -/
def tLkX (Φ : Hp → Prop) (H : Hp) : Prop := ∃ G, tLk G Φ H
theorem inv_lkX {X : Cx} {pins : List (Addr × Obj)} {σ : SS} {s : Shared} {Φ : Hp → Prop} {H : Hp} (I : Inv X pins σ H s) (h : tLkX Φ H) : ∃ H', Inv X pins σ H' s ∧ Φ H' := by
  obtain ⟨G, h⟩ := h
  exact inv_lk I h
/-- the first cell is locked for good -/
theorem HkO.frz {F : Fm} {c : Cel} {R : List Cel} {H : Hp} (k : HkO F (c :: R) H) {Φ : Hp → Prop} (q : ∀ H', Fzs H H' → (∀ a, a ∉ c.G → H' a = H a) → (∀ a o, H a = some o → ∃ u, H' a = some u) → HkO F R H' → c.d.pd.pr H' c.v → Φ H') : tLk c.G Φ H := by
  refine c.d.lock (k.del c List.mem_cons_self) k.ndup.1 fun H' kp dom p => ?_
  obtain ⟨r, fz, _⟩ := k.rest (H' := H') (fun a o na e => by rw [kp a na]; exact e) (fun a ha => by
    obtain ⟨o, e, _⟩ := c.d.cellsN (k.del c List.mem_cons_self) a ha
    exact dom a o e)
  exact q H' fz kp dom r p
theorem Ok.frz {F : Fm} {Γ : Gm} {Δ : Δs} {σ : SS} {H : Hp} {j : Nat} {c : Cell} (k : Ok F Γ Δ σ H) (hj : Δ[j]? = some c) {Φ : Hp → Prop} (q : ∀ H', St true H H' → Ok F Γ (Δ.eraseIdx j) σ H' → c.d.pd.pr H' c.v → Φ H') : tLkX Φ H := by
  obtain ⟨⟨Δ0, e, k⟩, n⟩ := k
  subst e
  obtain ⟨A, x, B, e0, el, ex⟩ := map_at hj
  subst e0
  subst ex
  refine ⟨x.G, (k.perm mid_perm).frz fun H' f kp dom h p => q H' ⟨f, (fun h => nomatch h), dom⟩ ⟨⟨A ++ B, ?_, h⟩, n.mono f⟩ p⟩
  rw [← el]
  exact map_erase
/-- a new thing is locked for good: all else stands -/
theorem OkN.frz {F : Fm} {Γ : Gm} {Δ : Δs} {σ : SS} {H0 H : Hp} {v : V} {d : Od} {W : Bool} (k : OkN W F Γ H0 v d Δ σ H) (s0 : St W H0 H) {Φ : Hp → Prop} (q : ∀ H', St W H0 H' → Ok F Γ Δ σ H' → d.pd.pr H' v → Φ H') : tLkX Φ H := by
  obtain ⟨Δ0, G, e, k, nw, n⟩ := k
  refine ⟨G, k.frz fun H' f kp dom h p => q H' ⟨s0.fz.trans f, fun hW a o ea => ?_, fun a o ea => ?_⟩ ⟨⟨Δ0, e, h⟩, n.mono f⟩ p⟩
  · rw [kp a fun ha => ?_]
    · exact s0.kp hW a o ea
    · rw [nw hW a ha] at ea; cases ea
  · obtain ⟨u, eu⟩ := s0.dom a o ea
    exact dom a u eu
theorem map_sub : ∀ {Δ0 : List Cel} {Δ' : Δs}, Δ'.Sublist (Δ0.map Cel.fg) → ∃ Δ1 : List Cel, Δ1.Sublist Δ0 ∧ Δ1.map Cel.fg = Δ'
  | [], _, h => ⟨[], .slnil, by
    have := List.sublist_nil.mp h
    rw [this]; rfl⟩
  | x :: Δ0, Δ', h => by
    rw [List.map_cons] at h
    cases h with
    | cons _ h =>
      obtain ⟨Δ1, s, e⟩ := map_sub h
      exact ⟨Δ1, .cons _ s, e⟩
    | cons_cons _ h =>
      obtain ⟨Δ1, s, e⟩ := map_sub h
      exact ⟨x :: Δ1, .cons₂ _ s, by rw [List.map_cons, e]⟩
theorem Hk.less {F : Fm} {Δ Δ' : Δs} {H : Hp} (k : Hk F Δ H) (h : Δ'.Sublist Δ) : Hk F Δ' H := by
  obtain ⟨Δ0, e, k⟩ := k
  subst e
  obtain ⟨Δ1, s, e⟩ := map_sub h
  exact ⟨Δ1, e, k.less s⟩
theorem Ok.less {F : Fm} {Γ : Gm} {Δ Δ' : Δs} {σ : SS} {H : Hp} (k : Ok F Γ Δ σ H) (h : Δ'.Sublist Δ) : Ok F Γ Δ' σ H := ⟨k.hk.less h, k.nm⟩
theorem OkN.less {W : Bool} {F : Fm} {Γ : Gm} {Δ Δ' : Δs} {σ : SS} {H0 H : Hp} {v : V} {d : Od} (k : OkN W F Γ H0 v d Δ σ H) (h : Δ'.Sublist Δ) : OkN W F Γ H0 v d Δ' σ H := by
  obtain ⟨Δ0, G, e, k, nw, n⟩ := k
  subst e
  obtain ⟨Δ1, s, e⟩ := map_sub h
  exact ⟨Δ1, G, e, k.less (s.cons₂ _), nw, n⟩
theorem Ok.set {F : Fm} {Γ : Gm} {Δ : Δs} {σ : SS} {H : Hp} {i : Nat} {p : Pd} {v : V} (k : Ok F Γ Δ σ H) (hp : p.pr H v) : Ok F (Γ.set i (some p)) Δ (σ.set i (some v)) H :=
  ⟨k.hk, by rw [List.length_set, List.length_set]; exact k.len, fun j q e => by
    by_cases h : j = i
    · subst h
      by_cases hl : j < Γ.length
      · rw [List.getElem?_set_self hl] at e
        cases e
        exact ⟨v, List.getElem?_set_self (by rw [k.len]; exact hl), hp⟩
      · rw [List.getElem?_eq_none (by rw [List.length_set]; omega)] at e
        cases e
    · rw [List.getElem?_set_ne (fun z => h z.symm)] at e
      obtain ⟨w, hs, hq⟩ := k.gam j q e
      exact ⟨w, by rw [List.getElem?_set_ne (fun z => h z.symm)]; exact hs, hq⟩⟩
/-- fewer names -/
def SubG : Gm → Gm → Prop
  | [], [] => True
  | none :: g', _ :: g => SubG g' g
  | some p :: g', some q :: g => p = q ∧ SubG g' g
  | _, _ => False
theorem SubG.len : ∀ {g' g : Gm}, SubG g' g → g'.length = g.length
  | [], [], _ => rfl
  | none :: g', _ :: g, h => congrArg (· + 1) (SubG.len (g' := g') (g := g) h)
  | some p :: g', some q :: g, h => congrArg (· + 1) (SubG.len (g' := g') (g := g) h.2)
  | [], _ :: _, h => h.elim
  | some _ :: _, [], h => h.elim
  | none :: _, [], h => h.elim
  | some _ :: _, none :: _, h => h.elim
theorem SubG.get : ∀ {g' g : Gm} {i : Nat} {p : Pd}, SubG g' g → g'[i]? = some (some p) → g[i]? = some (some p)
  | [], [], _, _, _, e => by simp at e
  | none :: g', _ :: g, 0, p, h, e => by simp at e
  | none :: g', _ :: g, i + 1, p, h, e => SubG.get (g' := g') (g := g) (i := i) h (by simpa using e)
  | some a :: g', some b :: g, 0, p, h, e => by
    have q : a = p := by simpa using e
    rw [← q, h.1]
    rfl
  | some a :: g', some b :: g, i + 1, p, h, e => SubG.get (g' := g') (g := g) (i := i) h.2 (by simpa using e)
  | [], _ :: _, _, _, h, _ => h.elim
  | some _ :: _, [], _, _, h, _ => h.elim
  | none :: _, [], _, _, h, _ => h.elim
  | some _ :: _, none :: _, _, _, h, _ => h.elim
theorem Ok.wk {F : Fm} {Γ Γ' : Gm} {Δ Δ' : Δs} {σ : SS} {H : Hp} (k : Ok F Γ Δ σ H) (g : SubG Γ' Γ) (h : Δ'.Sublist Δ) : Ok F Γ' Δ' σ H :=
  ⟨k.hk.less h, ⟨k.len.trans g.len.symm, fun i p e => k.gam i p (g.get e)⟩⟩
end L3
end
section
set_option Elab.async false
set_option linter.all false
set_option maxRecDepth 100000
set_option maxHeartbeats 4000000
namespace L3
open PySem PySem.Spec PyProof.Rows L2
section
variable {X : Cx} {W : Bool} {F : Fm} {Γ : Gm} {Δ : Δs} {γ : Type}

/-! ### what is new is locked -/
theorem x_frz {β : Type} {e : Expr} {T : Option γ} {k : β → Option γ} {D : β → Od} {Δ' : β → Δs} (he : PE X e (tO W F Γ Δ T k D Δ')) : PE X e (tE W F Γ Δ T k (fun b => (D b).pd) Δ') :=
  ⟨fun pins s σ H Q I ⟨ok, g, e, q⟩ => thn (he.run pins s σ H (fun v H' => ∃ b, k b = some g ∧ St W H H' ∧ OkN W F Γ H v (D b) (Δ' b) σ H') I ⟨ok, g, e, fun b v H' kb f ok' => ⟨b, kb, f, ok'⟩⟩) fun u s1 ⟨v, H1, I1, r1, b, kb, f, ok1⟩ => by
    obtain ⟨H2, I2, f2, ok2, p2⟩ := inv_lkX (Φ := fun H2 => St W H H2 ∧ Ok F Γ (Δ' b) σ H2 ∧ (D b).pd.pr H2 v) I1 (ok1.frz f fun H' f h p => ⟨f, h, p⟩)
    exact ⟨v, H2, I2, r1, q b v H2 kb f2 ok2 p2⟩⟩

/-! ### one operand -/
def Un1 (X : Cx) (e a : Expr) (r : V → Hp → VK → Prop) : Prop := ∀ ta, PE X a ta → PE X e (tUn r ta)
theorem u_un {op : UnaryOp} {r : V → Hp → VK → Prop} {a : Expr} {pos : Pos} (ho : UnR X (unaryOp op) r) : Un1 X (.UnaryOp op a pos) a r := fun _ ha => pe_un ho ha
theorem u_callB {id : String} {r : List V → Hp → VK → Prop} {x : Str} {a : Expr} {p pos : Pos} (hc : CallR X (.builtin id) r) (hg : Gl X x) (hm : X.mg x = none) (hv : bootBuiltins x = some (.builtin id)) (hn : x ≠ "__name__" := by decide) (hdb : (x == ("__debug__" : Str)) = false := by decide)
    (hs : starEach [a] X.env = (false, eval a X.env) :: starEach [] X.env := by rfl) : Un1 X (.Call (.Name x p) [a] [] pos) a (fun v => r [v]) := fun ta ha => (pe_callB hc hg hm hv (pa_cons ha pa_nil hs) hn hdb hs).wk fun σ H Q h => h
theorem u_callTy {id : String} {r : List V → Hp → VK → Prop} {x : Str} {a : Expr} {p pos : Pos} (hc : CallR X (.type id) r) (hg : Gl X x) (hm : X.mg x = none) (hv : bootBuiltins x = some (.type id)) (hn : x ≠ "__name__" := by decide) (hdb : (x == ("__debug__" : Str)) = false := by decide)
    (hs : starEach [a] X.env = (false, eval a X.env) :: starEach [] X.env := by rfl) : Un1 X (.Call (.Name x p) [a] [] pos) a (fun v => r [v]) := fun ta ha => (pe_callTy hc hg hm hv (pa_cons ha pa_nil hs) hn hdb hs).wk fun σ H Q h => h
theorem b_callB {id : String} {r : List V → Hp → VK → Prop} {x : Str} {a b : Expr} {p pos : Pos} (hc : CallR X (.builtin id) r) (hg : Gl X x) (hm : X.mg x = none) (hv : bootBuiltins x = some (.builtin id)) (hn : x ≠ "__name__" := by decide) (hdb : (x == ("__debug__" : Str)) = false := by decide)
    (hs : starEach [a, b] X.env = (false, eval a X.env) :: starEach [b] X.env := by rfl) (hs2 : starEach [b] X.env = (false, eval b X.env) :: starEach [] X.env := by rfl) (hpl : (backTo pos (starEach [b] X.env)).any (·.1) = false := by rfl) : Bin2 X (.Call (.Name x p) [a, b] [] pos) a b (fun v w => r [v, w]) := fun ta tb ha hb => (pe_callB hc hg hm hv (pa_cons ha (pa_cons hb pa_nil hs2) hs) hn hdb hs hpl).wk fun σ H Q h => h
section
variable {e a : Expr} {r : V → Hp → VK → Prop} {β : Type} {T : Option γ} {E1 : β → Pd} {Δ1 : β → Δs}
theorem x1t {k : β → Option γ} {E : β → Pd} (h1 : Un1 X e a r) (ha : PE X a (tE W F Γ Δ T k E1 Δ1)) (hv : ∀ b σ v H Q, Ok F Γ (Δ1 b) σ H → (E1 b).pr H v → (∀ u, (E b).pr H u → Q u H) → r v H Q) : PE X e (tE W F Γ Δ T k E Δ1) :=
  (h1 _ ha).wk fun σ H Q ⟨ok, g, e, q⟩ => ⟨ok, g, e, fun b v H' kb f ok' hp => hv b σ v H' Q ok' hp fun u hu => q b u H' kb f ok' hu⟩
theorem x1g {k : β → Option γ} {E : β → Pd} {c : β → Prop} [∀ b, Decidable (c b)] (h1 : Un1 X e a r) (ha : PE X a (tE W F Γ Δ T (fun b => grd (c b) (k b)) E1 Δ1)) (hv : ∀ b σ v H Q, Ok F Γ (Δ1 b) σ H → c b → (E1 b).pr H v → (∀ u, (E b).pr H u → Q u H) → r v H Q) : PE X e (tE W F Γ Δ T k E Δ1) :=
  (h1 _ ha).wk fun σ H Q ⟨ok, g, e, q⟩ => ⟨ok, g, e, fun b v H' kb f ok' hp => hv b σ v H' Q ok' (grd_some kb).1 hp fun u hu => q b u H' (grd_some kb).2 f ok' hu⟩
theorem x1p {β2 : Type} {k : β × β2 → Option γ} {E : β × β2 → Pd} {m : β → Option β2} (h1 : Un1 X e a r) (ha : PE X a (tE W F Γ Δ T (fun b => (m b).bind fun c => k (b, c)) E1 Δ1))
    (hv : ∀ b c σ v H Q, Ok F Γ (Δ1 b) σ H → m b = some c → (E1 b).pr H v → (∀ u, (E (b, c)).pr H u → Q u H) → r v H Q) : PE X e (tE W F Γ Δ T k E fun b => Δ1 b.1) :=
  (h1 _ ha).wk fun σ H Q ⟨ok, g, e, q⟩ => ⟨ok, g, e, fun b v H' kb f ok' hp => by
    obtain ⟨c, ec, kc⟩ := bind_some kb
    exact hv b c σ v H' Q ok' ec hp fun u hu => q (b, c) u H' kc f ok' hu⟩
/-- a new list -/
theorem Ok.newL {σ : SS} {H : Hp} {p : Addr} {α : Type} {E : α → Pd} {xs : List α} {vs : List V} (ok : Ok F Γ Δ σ H) (hp : H p = none) (z : xs.length ≤ sizeLine) (q : Paired (fun x u => (E x).pr H u) xs vs) : OkN W F Γ H (.ref p) (oL E xs) Δ σ (upd H p (.lst vs)) ∧ Gr H (upd H p (.lst vs)) := by
  have g : Gr H (upd H p (.lst vs)) := Gr.new hp
  exact ⟨ok.add g (List.nodup_cons.mpr ⟨List.not_mem_nil, List.nodup_nil⟩) (fun a ha => by rw [List.mem_singleton.mp ha]; exact hp) ⟨p, vs, rfl, rfl, upd_same, z, paired_mono (fun x _ => (E x).mono g.fzs) q⟩, g⟩
theorem Ok.newD {σ : SS} {H : Hp} {p : Addr} {α : Type} {E : α → Pd} {xs : List (Str × α)} {kvs : List (Key × V)} (ok : Ok F Γ Δ σ H) (hp : H p = none) (z : xs.length ≤ sizeLine) (q : Paired (fun (x : Str × α) (u : Key × V) => u.1 = .inr x.1 ∧ (E x.2).pr H u.2) xs kvs) : OkN W F Γ H (.ref p) (oD E xs) Δ σ (upd H p (.dK kvs)) ∧ Gr H (upd H p (.dK kvs)) := by
  have g : Gr H (upd H p (.dK kvs)) := Gr.new hp
  exact ⟨ok.add g (List.nodup_cons.mpr ⟨List.not_mem_nil, List.nodup_nil⟩) (fun a ha => by rw [List.mem_singleton.mp ha]; exact hp) ⟨p, kvs, rfl, rfl, upd_same, z, paired_mono (fun x _ w => ⟨w.1, (E x.2).mono g.fzs w.2⟩) q⟩, g⟩
theorem x1n {k : β → Option γ} {α : Type} {Ee : α → Pd} {ys : β → List α} (h1 : Un1 X e a r) (ha : PE X a (tE W F Γ Δ T k E1 Δ1))
    (hv : ∀ b σ v H Q, Ok F Γ (Δ1 b) σ H → (E1 b).pr H v → (∀ p vs, H p = none → (ys b).length ≤ sizeLine → Paired (fun x u => (Ee x).pr H u) (ys b) vs → Q (.ref p) (upd H p (.lst vs))) → r v H Q) : PE X e (tO W F Γ Δ T k (fun b => oL Ee (ys b)) Δ1) :=
  (h1 _ ha).wk fun σ H Q ⟨ok, g, e, q⟩ => ⟨ok, g, e, fun b v H' kb f ok' hp => hv b σ v H' Q ok' hp fun p vs np z pr => by
    obtain ⟨o2, f2⟩ := ok'.newL np z pr
    exact q b _ _ kb (f.trans f2.st) (o2.since f)⟩
end
/-! ### argument lists -/
theorem a_nil {k : Unit → Option γ} : PA X [] (tAr W F Γ Δ (k ()) k (fun _ => []) fun _ => Δ) := pa_nil.wk fun σ H Q ⟨ok, g, e, q⟩ => q () [] H e (St.refl H) ok .nil
theorem a_cons {a : Expr} {es : List Expr} {β1 β2 : Type} {T : Option γ} {k1 : β1 → Option γ} {k : β1 × β2 → Option γ} {E1 : β1 → Pd} {Es : β1 → β2 → List Pd} {Δ1 : β1 → Δs} {Δ2 : β1 → β2 → Δs}
    (ha : PE X a (tE W F Γ Δ T k1 E1 Δ1)) (hr : ∀ b1, PA X es (tAr W F Γ (Δ1 b1) (k1 b1) (fun b2 => k (b1, b2)) (Es b1) (Δ2 b1))) (hs : starEach (a :: es) X.env = (false, eval a X.env) :: starEach es X.env := by rfl) :
    PA X (a :: es) (tAr W F Γ Δ T k (fun b => E1 b.1 :: Es b.1 b.2) fun b => Δ2 b.1 b.2) :=
  (pa_cons ha (pa_ex hr) hs).wk fun σ H Q ⟨ok, g, e, q⟩ => ⟨ok, g, e, fun b1 v H1 kb f1 ok1 hv => ⟨b1, ok1, g, kb, fun b2 vs H2 kb2 f2 ok2 hvs => q (b1, b2) (v :: vs) H2 kb2 (f1.trans f2) ok2 (.cons ((E1 b1).mono f2.fz hv) hvs)⟩⟩
theorem paired_len {α β : Type} {P : α → β → Prop} {l₁ : List α} {l₂ : List β} (h : Paired P l₁ l₂) : l₁.length = l₂.length := Paired.length h
/-- [a, b, ..] of one kind -/
theorem paired_map {α : Type} {E : α → Pd} {H : Hp} : ∀ {xs : List α} {vs : List V}, Paired (fun p v => Pd.pr p H v) (xs.map E) vs → Paired (fun x v => (E x).pr H v) xs vs
  | [], _, h => by cases h; exact .nil
  | x :: xs, _, h => by
    cases h with
    | cons r t => exact .cons r (paired_map t)
theorem x_disp {es : List Expr} {pos : Pos} {β α : Type} {T : Option γ} {k : β → Option γ} {Es : β → List Pd} {Δ1 : β → Δs} (Ee : α → Pd) (xs : β → List α) (ha : PA X es (tAr W F Γ Δ T k Es Δ1)) (he : ∀ b, Es b = (xs b).map Ee) (hz : ∀ b, (xs b).length ≤ 1000) :
    PE X (.List es pos) (tO W F Γ Δ T k (fun b => oL Ee (xs b)) Δ1) :=
  (pe_lst ha).wk fun σ H Q ⟨ok, g, e, q⟩ => ⟨ok, g, e, fun b vs H' kb f ok' hp => by
    rw [he b] at hp
    have hp2 := paired_map hp
    have z : (xs b).length ≤ sizeLine := Nat.le_trans (hz b) (by decide)
    refine ⟨by rw [← paired_len hp2]; exact z, fun p np => ?_⟩
    obtain ⟨o2, f2⟩ := ok'.newL np z hp2
    exact q b _ _ kb (f.trans f2.st) (o2.since f)⟩
theorem x_nil {pos : Pos} {α : Type} {k : Unit → Option γ} (Ee : α → Pd) : PE X (.List [] pos) (tO W F Γ Δ (k ()) k (fun _ => oL Ee []) fun _ => Δ) := x_disp Ee (fun _ => []) a_nil (fun _ => rfl) fun _ => Nat.zero_le _
theorem paired2 {α β : Type} {P : α → β → Prop} {p q : α} {vs : List β} (h : Paired P [p, q] vs) : ∃ u w, vs = [u, w] ∧ P p u ∧ P q w := by
  cases h with
  | cons r1 t => cases t with
    | cons r2 t => cases t with
      | nil => exact ⟨_, _, rfl, r1, r2⟩
theorem paired3 {α β : Type} {P : α → β → Prop} {p q r : α} {vs : List β} (h : Paired P [p, q, r] vs) : ∃ u w z, vs = [u, w, z] ∧ P p u ∧ P q w ∧ P r z := by
  cases h with
  | cons r1 t =>
    obtain ⟨u, w, e, h1, h2⟩ := paired2 t
    subst e
    exact ⟨_, _, _, rfl, r1, h1, h2⟩
theorem x_tup2 {a b : Expr} {x1} {pos : Pos} {α1 α2 β : Type} {T : Option γ} {k : β → Option γ} {Δ1 : β → Δs} {p q : β → Pd} (ha : PA X [a, b] (tAr W F Γ Δ T k (fun b => [p b, q b]) Δ1)) (E1 : α1 → Pd) (E2 : α2 → Pd) (x : β → α1) (y : β → α2) (h1 : ∀ b, p b = E1 (x b) := by exact fun _ => rfl) (h2 : ∀ b, q b = E2 (y b) := by exact fun _ => rfl) :
    PE X (.Tuple [a, b] x1 pos) (tE W F Γ Δ T k (fun b => pT2 E1 E2 (x b, y b)) Δ1) :=
  (pe_tup ha).wk fun σ H Q ⟨ok, g, e, w⟩ => ⟨ok, g, e, fun b vs H' kb f ok' hp => by
    have hp : Paired (fun p v => Pd.pr p H' v) [p b, q b] vs := hp
    rw [h1 b, h2 b] at hp
    obtain ⟨u1, u2, e, r1, r2⟩ := paired2 hp
    subst e
    refine ⟨by show 2 ≤ sizeLine; decide, fun t nt => ?_⟩
    have g' : Gr H' (upd H' t (.tup [u1, u2])) := Gr.new nt
    exact w b _ _ kb (f.trans g'.st) (ok'.gr g') ⟨t, _, _, rfl, upd_same, (E1 _).mono g'.fzs r1, (E2 _).mono g'.fzs r2⟩⟩

/-! ### statements -/
variable {γ : Type} {N : Fn γ} {rest : List Stmt}
theorem s_asg {i : Nat} {x : Str} {e : Expr} {pos pos' : Pos} {β : Type} {T : Option γ} {k : β → Option γ} {E : β → Pd} {Δ' : β → Δs} (nd : X.N.Nodup) (he : PE X e (tE true F Γ Δ T k E Δ'))
    (hr : ∀ b, PSs X rest (tS F (Γ.set i (some (E b))) (Δ' b) N (k b))) (hi : X.N[i]? = some x := by rfl) (hx : Loc X.env.scope x := by first | exact .inl rfl | exact .inr rfl)
    (hs : swapsWith e (some (.Name x pos')) pos.line X.env = pure false := by rfl) (hf : X.fn x = true ∨ X.env.scope.names.lookup x = some .local := by first | exact .inl rfl | exact .inr rfl | assumption) :
    PSs X (.Assign [.Name x pos'] e pos :: rest) (tS F Γ Δ N T) :=
  (pss_cons (ps_set nd hi hx he hs hf) (pss_ex hr)).wk fun D σ H ⟨ok, g, e, f⟩ => ⟨ok, g, e, fun b v H' kb fz ok' hv => ⟨b, ok'.set hv, g, kb, N.mono f fz.fz⟩⟩
/-- .. the value as a letter -/
theorem s_let {i : Nat} {x : Str} {e : Expr} {pos pos' : Pos} {β α : Type} {T : Option γ} {Δ' : β → Δs} {val : β → α} {k2 : β → α → Option γ} (E0 : α → Pd) (nd : X.N.Nodup) (he : PE X e (tE true F Γ Δ T (fun b => (some (val b)).bind (k2 b)) (fun b => E0 (val b)) Δ'))
    (hr : ∀ b a, PSs X rest (tS F (Γ.set i (some (E0 a))) (Δ' b) N (k2 b a))) (hi : X.N[i]? = some x := by rfl) (hx : Loc X.env.scope x := by first | exact .inl rfl | exact .inr rfl)
    (hs : swapsWith e (some (.Name x pos')) pos.line X.env = pure false := by rfl) (hf : X.fn x = true ∨ X.env.scope.names.lookup x = some .local := by first | exact .inl rfl | exact .inr rfl | assumption) :
    PSs X (.Assign [.Name x pos'] e pos :: rest) (tS F Γ Δ N T) :=
  s_asg nd he (fun b => hr b (val b)) hi hx hs hf
theorem s_letO {i : Nat} {x : Str} {e : Expr} {pos pos' : Pos} {β α : Type} {T : Option γ} {Δ' : β → Δs} {val : β → α} {k2 : β → α → Option γ} (D0 : α → Od) (nd : X.N.Nodup) (he : PE X e (tO true F Γ Δ T (fun b => (some (val b)).bind (k2 b)) (fun b => D0 (val b)) Δ'))
    (hr : ∀ b a v, PSs X rest (tS F (Γ.set i (some (pV v))) (⟨v, D0 a, none⟩ :: Δ' b) N (k2 b a))) (hi : X.N[i]? = some x := by rfl) (hx : Loc X.env.scope x := by first | exact .inl rfl | exact .inr rfl)
    (hs : swapsWith e (some (.Name x pos')) pos.line X.env = pure false := by rfl) (hf : X.fn x = true ∨ X.env.scope.names.lookup x = some .local := by first | exact .inl rfl | exact .inr rfl | assumption) :
    PSs X (.Assign [.Name x pos'] e pos :: rest) (tS F Γ Δ N T) :=
  (pss_cons (ps_set nd hi hx he hs hf) (pss_ex fun b => pss_ex fun v => hr b (val b) v)).wk fun D σ H ⟨ok, g, e, f⟩ => ⟨ok, g, e, fun b v H' kb fz ok' => ⟨b, v, ok'.ok.set rfl, g, kb, N.mono f fz.fz⟩⟩
/-- the mirror said otherwise -/
theorem s_is {st : List Stmt} {T T' : Option γ} (hr : PSs X st (tS F Γ Δ N T')) (e : T = T') : PSs X st (tS F Γ Δ N T) := by rw [e]; exact hr
/-- ghost steps -/
theorem s_wk {st : List Stmt} {Γ' : Gm} {Δ' : Δs} {T : Option γ} (g : SubG Γ' Γ) (h : Δ'.Sublist Δ) (hr : PSs X st (tS F Γ' Δ' N T)) : PSs X st (tS F Γ Δ N T) :=
  hr.wk fun D σ H ⟨ok, g', e, f⟩ => ⟨ok.wk g h, g', e, f⟩
theorem Ok.frzS {σ : SS} {H : Hp} {i j : Nat} {c : Cell} (k : Ok F Γ Δ σ H) (hj : Δ[j]? = some c) (hi : Γ[i]? = some (some (pV c.v))) {Φ : Hp → Prop} (q : ∀ H', St true H H' → Ok F (Γ.set i (some c.d.pd)) (Δ.eraseIdx j) σ H' → Φ H') : tLkX Φ H :=
  k.frz hj fun H' f ok' p => q H' f (by
    obtain ⟨v, hs, hv⟩ := k.gam i _ hi
    have hv2 : v = c.v := hv
    subst hv2
    refine ⟨ok'.hk, by rw [List.length_set]; exact ok'.len, fun m p' e => ?_⟩
    by_cases h : m = i
    · subst h
      rw [List.getElem?_set_self (List.getElem?_eq_some_iff.mp hi).1] at e
      cases e
      exact ⟨_, hs, p⟩
    · rw [List.getElem?_set_ne (fun z => h z.symm)] at e
      exact ok'.gam m p' e)
theorem s_frz {st : List Stmt} {i : Nat} {T : Option γ} {c : Cell} (j : Nat) (hr : PSs X st (tS F (Γ.set i (some c.d.pd)) (Δ.eraseIdx j) N T)) (hj : Δ[j]? = some c := by rfl) (hi : Γ[i]? = some (some (pV c.v)) := by rfl) : PSs X st (tS F Γ Δ N T) :=
  ⟨fun pins s σ H D I ⟨ok, g, e, f⟩ => by
    obtain ⟨H2, I2, ok2⟩ := inv_lkX (Φ := fun H2 => Fzs H H2 ∧ Ok F (Γ.set i (some c.d.pd)) (Δ.eraseIdx j) σ H2) I (ok.frzS hj hi fun H' f h => ⟨f.fz, h⟩)
    exact hr.run pins s σ H2 D I2 ⟨ok2.2, g, e, N.mono f ok2.1⟩⟩
/-- an expression for what it does -/
theorem s_expr {e : Expr} {pos : Pos} {β : Type} {T : Option γ} {k : β → Option γ} {E : β → Pd} {Δ' : β → Δs} (he : PE X e (tE true F Γ Δ T k E Δ')) (hr : ∀ b, PSs X rest (tS F Γ (Δ' b) N (k b))) (hs : swapsWith e none pos.line X.env = pure false := by rfl) :
    PSs X (.Expr e pos :: rest) (tS F Γ Δ N T) :=
  (pss_cons (ps_expr he hs) (pss_ex hr)).wk fun D σ H ⟨ok, g, e, f⟩ => ⟨ok, g, e, fun b v H' kb fz ok' _ => ⟨b, ok', g, kb, N.mono f fz.fz⟩⟩
/-! ends -/
abbrev Rt (ρ : Type) := ρ → VK → Prop
def fF {ρ : Type} (R : Rt ρ) : Fn ρ := ⟨fun _ r D => R r D.rt, fun h _ => h⟩
/-- a def's end: its value is of a kind; what it owned of its caller's -/
def RF {ρ : Type} (F : Fm) (P : ρ → Δs) (Rp : ρ → Pd) : Rt ρ := fun r rt => ∀ v H', Hk F (P r) H' → (Rp r).pr H' v → rt v H'
def RO {ρ : Type} (F : Fm) (P : ρ → Δs) (Ro : ρ → Od) : Rt ρ := fun r rt => ∀ v H', Hk F (⟨v, Ro r, none⟩ :: P r) H' → rt v H'
theorem s_ret {e : Expr} {pos : Pos} {β ρ : Type} {T : Option γ} {Δ' : β → Δs} {P : ρ → Δs} {Rp : ρ → Pd} {ι : ρ → γ} {rv : β → ρ} (hN : ∀ H r D, N.fin H (ι r) D → RF F P Rp r D.rt) (he : PE X e (tE true F Γ Δ T (fun b => some (ι (rv b))) (fun b => Rp (rv b)) Δ'))
    (hP : ∀ b, (P (rv b)).Sublist (Δ' b)) : PSs X [.Return (some e) pos] (tS F Γ Δ N T) :=
  (pss_one (ps_ret he)).wk fun D σ H ⟨ok, g, e, f⟩ => ⟨ok, g, e, fun b v H' kb fz ok' hv => by
    have eg : g = ι (rv b) := (Option.some.inj kb).symm
    rw [eg] at f
    exact hN _ _ D f v H' (ok'.hk.less (hP b)) hv⟩
theorem s_retO {e : Expr} {pos : Pos} {β ρ : Type} {T : Option γ} {Δ' : β → Δs} {P : ρ → Δs} {Ro : ρ → Od} {ι : ρ → γ} {rv : β → ρ} (hN : ∀ H r D, N.fin H (ι r) D → RO F P Ro r D.rt) (he : PE X e (tO true F Γ Δ T (fun b => some (ι (rv b))) (fun b => Ro (rv b)) Δ'))
    (hP : ∀ b, (P (rv b)).Sublist (Δ' b)) : PSs X [.Return (some e) pos] (tS F Γ Δ N T) :=
  (pss_one (ps_ret he)).wk fun D σ H ⟨ok, g, e, f⟩ => ⟨ok, g, e, fun b v H' kb fz ok' => by
    have eg : g = ι (rv b) := (Option.some.inj kb).symm
    rw [eg] at f
    exact hN _ _ D f v H' (ok'.ok.hk.less ((hP b).cons₂ _))⟩
end
end L3
end
section
set_option Elab.async false
set_option linter.all false
set_option maxRecDepth 100000
set_option maxHeartbeats 4000000
set_option autoImplicit true
namespace L3
open PySem PySem.Spec PyProof.Rows L2
section
variable {X : Cx} {W : Bool} {F : Fm} {Γ : Gm} {Δ : Δs} {γ : Type}
/-! ### tests -/
theorem x_tot {β : Type} {e : Expr} {T : Option γ} {E : β → Pd} {Δ' : β → Δs} (b0 : β) (hβ : ∀ b, b = b0) (he : PE X e (tE W F Γ Δ T (fun _ : β => T) E Δ')) : PE X e (tE W F Γ Δ T (fun _ : Unit => T) (fun _ => E b0) fun _ => Δ' b0) :=
  he.wk fun σ H Q ⟨ok, g, e, q⟩ => ⟨ok, g, e, fun b v H' kb f ok' hv => by
    rw [hβ b] at ok' hv
    exact q () v H' kb f ok' hv⟩
theorem t_val {e : Expr} {β : Type} {T : Option γ} {k : β → Option γ} {c : β → Bool} {Δ' : β → Δs} (he : PE X e (tE W F Γ Δ T k (fun b => pBl (c b)) Δ')) (hw : ∀ whole, isTrue e X.env whole = (do let v ← whole; standAt e.pos; holding [v] (truthy v)) := by intro _; rfl) :
    PT X e (tTs W F Γ Δ T k c Δ') :=
  (pt_val he hw).wk fun σ H Q ⟨ok, g, e, q⟩ => ⟨ok, g, e, fun b v H' kb f ok' hv => ⟨c b, hv, q b H' kb f ok'⟩⟩
theorem t_not {e : Expr} {pos : Pos} {β : Type} {T : Option γ} {k : β → Option γ} {c : β → Bool} {Δ' : β → Δs} (he : PT X e (tTs W F Γ Δ T k c Δ')) : PT X (.UnaryOp .Not e pos) (tTs W F Γ Δ T k (fun b => !c b) Δ') :=
  (pt_not he).wk fun σ H Q ⟨ok, g, e, q⟩ => ⟨ok, g, e, fun b H' kb f ok' => q b H' kb f ok'⟩
theorem x_not {e : Expr} {pos : Pos} {β : Type} {T : Option γ} {k : β → Option γ} {c : β → Bool} {Δ' : β → Δs} (he : PE X e (tE W F Γ Δ T k (fun b => pBl (c b)) Δ')) : PE X (.UnaryOp .Not e pos) (tE W F Γ Δ T k (fun b => pBl (!c b)) Δ') :=
  (pe_not he).wk fun σ H Q ⟨ok, g, e, q⟩ => ⟨ok, g, e, fun b v H' kb f ok' hv => ⟨c b, hv, q b _ H' kb f ok' rfl⟩⟩
theorem t_tot {β : Type} {e : Expr} {T : Option γ} {c : β → Bool} {Δ' : β → Δs} (b0 : β) (hβ : ∀ b, b = b0) (he : PT X e (tTs W F Γ Δ T (fun _ : β => T) c Δ')) : PT X e (tTs W F Γ Δ T (fun _ : Unit => T) (fun _ => c b0) fun _ => Δ' b0) :=
  he.wk fun σ H Q ⟨ok, g, e, q⟩ => ⟨ok, g, e, fun b H' kb f ok' => by
    rw [hβ b] at ok' ⊢
    exact q () H' kb f ok'⟩
section
variable {a b : Expr} {rest : List Expr} {pos : Pos} {c1 c2 : Bool} {T : Option γ}
abbrev tTot (W : Bool) (F : Fm) (Γ : Gm) (Δ : Δs) {γ : Type} (T : Option γ) (c : Bool) : TT := tTs W F Γ Δ T (fun _ : Unit => T) (fun _ => c) fun _ => Δ
abbrev eTot (W : Bool) (F : Fm) (Γ : Gm) (Δ : Δs) {γ : Type} (T : Option γ) (p : Pd) : TE := tE W F Γ Δ T (fun _ : Unit => T) (fun _ => p) fun _ => Δ
theorem w_and1 (ha : PT X a (tTs W F Γ Δ T k c Δ')) : PW X (.BoolOp .And [a] pos) (tTs W F Γ Δ T k c Δ') := pw_and1 ha
theorem w_or1 (ha : PT X a (tTs W F Γ Δ T k c Δ')) : PW X (.BoolOp .Or [a] pos) (tTs W F Γ Δ T k c Δ') := pw_or1 ha
theorem w_and (ha : PT X a (tTot W F Γ Δ T c1)) (hb : PW X (.BoolOp .And (b :: rest) pos) (tTot W F Γ Δ T c2)) : PW X (.BoolOp .And (a :: b :: rest) pos) (tTot W F Γ Δ T (c1 && c2)) :=
  (pw_and ha hb).wk fun σ H Q ⟨ok, g, e, q⟩ => ⟨ok, g, e, fun _ H1 kb f ok1 => by
    cases c1 with
    | true => exact iteT ⟨ok1, g, e, fun _ H2 kb2 f2 ok2 => q () H2 kb2 (f.trans f2) ok2⟩
    | false => exact iteF (q () H1 kb f ok1)⟩
theorem w_or (ha : PT X a (tTot W F Γ Δ T c1)) (hb : PW X (.BoolOp .Or (b :: rest) pos) (tTot W F Γ Δ T c2)) : PW X (.BoolOp .Or (a :: b :: rest) pos) (tTot W F Γ Δ T (c1 || c2)) :=
  (pw_or ha hb).wk fun σ H Q ⟨ok, g, e, q⟩ => ⟨ok, g, e, fun _ H1 kb f ok1 => by
    cases c1 with
    | true => exact iteT (q () H1 kb f ok1)
    | false => exact iteF ⟨ok1, g, e, fun _ H2 kb2 f2 ok2 => q () H2 kb2 (f.trans f2) ok2⟩⟩
theorem v_one {op} {t : TE} (h : PE X a t) : PE X (.BoolOp op [a] pos) t := pe_one h
theorem v_and (ha : PE X a (eTot W F Γ Δ T (pBl c1))) (hb : PE X (.BoolOp .And (b :: rest) pos) (eTot W F Γ Δ T (pBl c2))) : PE X (.BoolOp .And (a :: b :: rest) pos) (eTot W F Γ Δ T (pBl (c1 && c2))) :=
  (pe_and ha hb).wk fun σ H Q ⟨ok, g, e, q⟩ => ⟨ok, g, e, fun _ v H1 kb f ok1 hv => ⟨c1, hv, by
    cases c1 with
    | true => exact iteT ⟨ok1, g, e, fun _ w H2 kb2 f2 ok2 hw => q () w H2 kb2 (f.trans f2) ok2 hw⟩
    | false => exact iteF (q () _ H1 kb f ok1 rfl)⟩⟩
theorem v_or (ha : PE X a (eTot W F Γ Δ T (pBl c1))) (hb : PE X (.BoolOp .Or (b :: rest) pos) (eTot W F Γ Δ T (pBl c2))) : PE X (.BoolOp .Or (a :: b :: rest) pos) (eTot W F Γ Δ T (pBl (c1 || c2))) :=
  (pe_or ha hb).wk fun σ H Q ⟨ok, g, e, q⟩ => ⟨ok, g, e, fun _ v H1 kb f ok1 hv => ⟨c1, hv, by
    cases c1 with
    | true => exact iteT (q () _ H1 kb f ok1 rfl)
    | false => exact iteF ⟨ok1, g, e, fun _ w H2 kb2 f2 ok2 hw => q () w H2 kb2 (f.trans f2) ok2 hw⟩⟩⟩
end
section
variable {a b : Expr} {rest : List Expr} {pos : Pos} {β1 β2 S : Type} {T : Option γ} {c1 : β1 → Bool} {c2 : β1 → β2 → Bool} {Δ1 : β1 → Δs} {Δ2 : β1 → β2 → Δs} {T2 : β1 → Option (Bool × S)} {s1 : β1 → S} {s2 : β1 → β2 → S} {ΔS : β1 → S → Δs} {k : β1 × (Bool × S) → Option γ}
theorem w_andM (ha : PT X a (tTs W F Γ Δ T (fun b1 => (if c1 b1 = true then T2 b1 else some (false, s1 b1)).bind fun c => k (b1, c)) c1 Δ1)) (hb : ∀ b1, PW X (.BoolOp .And (b :: rest) pos) (tTs W F Γ (Δ1 b1) (T2 b1) (fun b2 => some (c2 b1 b2, s2 b1 b2)) (c2 b1) (Δ2 b1)))
    (h1 : ∀ b1, Δ1 b1 = ΔS b1 (s1 b1)) (h2 : ∀ b1 b2, Δ2 b1 b2 = ΔS b1 (s2 b1 b2)) : PW X (.BoolOp .And (a :: b :: rest) pos) (tTs W F Γ Δ T k (fun b => b.2.1) fun b => ΔS b.1 b.2.2) :=
  (pw_and ha (pw_ex hb)).wk fun σ H Q ⟨ok, g, e, q⟩ => ⟨ok, g, e, fun b1 H1 kb f ok1 => by
    cases h : c1 b1 with
    | true =>
      try dsimp only at kb
      rw [if_pos h] at kb
      obtain ⟨cs, ec, kc⟩ := bind_some kb
      refine iteT ⟨b1, ok1, cs, ec, fun b2 H2 kb2 f2 ok2 => ?_⟩
      have ecs : (c2 b1 b2, s2 b1 b2) = cs := Option.some.inj kb2
      rw [← ecs] at kc
      rw [h2] at ok2
      exact q (b1, (c2 b1 b2, s2 b1 b2)) H2 kc (f.trans f2) ok2
    | false =>
      try dsimp only at kb
      rw [if_neg (by rw [h]; exact Bool.false_ne_true)] at kb
      rw [h1] at ok1
      exact iteF (q (b1, (false, s1 b1)) H1 kb f ok1)⟩
theorem w_orM (ha : PT X a (tTs W F Γ Δ T (fun b1 => (if c1 b1 = true then some (true, s1 b1) else T2 b1).bind fun c => k (b1, c)) c1 Δ1)) (hb : ∀ b1, PW X (.BoolOp .Or (b :: rest) pos) (tTs W F Γ (Δ1 b1) (T2 b1) (fun b2 => some (c2 b1 b2, s2 b1 b2)) (c2 b1) (Δ2 b1)))
    (h1 : ∀ b1, Δ1 b1 = ΔS b1 (s1 b1)) (h2 : ∀ b1 b2, Δ2 b1 b2 = ΔS b1 (s2 b1 b2)) : PW X (.BoolOp .Or (a :: b :: rest) pos) (tTs W F Γ Δ T k (fun b => b.2.1) fun b => ΔS b.1 b.2.2) :=
  (pw_or ha (pw_ex hb)).wk fun σ H Q ⟨ok, g, e, q⟩ => ⟨ok, g, e, fun b1 H1 kb f ok1 => by
    cases h : c1 b1 with
    | true =>
      try dsimp only at kb
      rw [if_pos h] at kb
      rw [h1] at ok1
      exact iteT (q (b1, (true, s1 b1)) H1 kb f ok1)
    | false =>
      try dsimp only at kb
      rw [if_neg (by rw [h]; exact Bool.false_ne_true)] at kb
      obtain ⟨cs, ec, kc⟩ := bind_some kb
      refine iteF ⟨b1, ok1, cs, ec, fun b2 H2 kb2 f2 ok2 => ?_⟩
      have ecs : (c2 b1 b2, s2 b1 b2) = cs := Option.some.inj kb2
      rw [← ecs] at kc
      rw [h2] at ok2
      exact q (b1, (c2 b1 b2, s2 b1 b2)) H2 kc (f.trans f2) ok2⟩
theorem v_andM (ha : PE X a (tE W F Γ Δ T (fun b1 => (if c1 b1 = true then T2 b1 else some (false, s1 b1)).bind fun c => k (b1, c)) (fun b => pBl (c1 b)) Δ1)) (hb : ∀ b1, PE X (.BoolOp .And (b :: rest) pos) (tE W F Γ (Δ1 b1) (T2 b1) (fun b2 => some (c2 b1 b2, s2 b1 b2)) (fun b2 => pBl (c2 b1 b2)) (Δ2 b1)))
    (h1 : ∀ b1, Δ1 b1 = ΔS b1 (s1 b1)) (h2 : ∀ b1 b2, Δ2 b1 b2 = ΔS b1 (s2 b1 b2)) : PE X (.BoolOp .And (a :: b :: rest) pos) (tE W F Γ Δ T k (fun b => pBl b.2.1) fun b => ΔS b.1 b.2.2) :=
  (pe_and ha (pe_ex hb)).wk fun σ H Q ⟨ok, g, e, q⟩ => ⟨ok, g, e, fun b1 v H1 kb f ok1 hv => ⟨c1 b1, hv, by
    cases h : c1 b1 with
    | true =>
      try dsimp only at kb
      rw [if_pos h] at kb
      obtain ⟨cs, ec, kc⟩ := bind_some kb
      refine iteT ⟨b1, ok1, cs, ec, fun b2 w H2 kb2 f2 ok2 hw => ?_⟩
      have ecs : (c2 b1 b2, s2 b1 b2) = cs := Option.some.inj kb2
      rw [← ecs] at kc
      rw [h2] at ok2
      exact q (b1, (c2 b1 b2, s2 b1 b2)) w H2 kc (f.trans f2) ok2 hw
    | false =>
      try dsimp only at kb
      rw [if_neg (by rw [h]; exact Bool.false_ne_true)] at kb
      rw [h1] at ok1
      exact iteF (q (b1, (false, s1 b1)) _ H1 kb f ok1 rfl)⟩⟩
theorem v_orM (ha : PE X a (tE W F Γ Δ T (fun b1 => (if c1 b1 = true then some (true, s1 b1) else T2 b1).bind fun c => k (b1, c)) (fun b => pBl (c1 b)) Δ1)) (hb : ∀ b1, PE X (.BoolOp .Or (b :: rest) pos) (tE W F Γ (Δ1 b1) (T2 b1) (fun b2 => some (c2 b1 b2, s2 b1 b2)) (fun b2 => pBl (c2 b1 b2)) (Δ2 b1)))
    (h1 : ∀ b1, Δ1 b1 = ΔS b1 (s1 b1)) (h2 : ∀ b1 b2, Δ2 b1 b2 = ΔS b1 (s2 b1 b2)) : PE X (.BoolOp .Or (a :: b :: rest) pos) (tE W F Γ Δ T k (fun b => pBl b.2.1) fun b => ΔS b.1 b.2.2) :=
  (pe_or ha (pe_ex hb)).wk fun σ H Q ⟨ok, g, e, q⟩ => ⟨ok, g, e, fun b1 v H1 kb f ok1 hv => ⟨c1 b1, hv, by
    cases h : c1 b1 with
    | true =>
      try dsimp only at kb
      rw [if_pos h] at kb
      rw [h1] at ok1
      exact iteT (q (b1, (true, s1 b1)) _ H1 kb f ok1 rfl)
    | false =>
      try dsimp only at kb
      rw [if_neg (by rw [h]; exact Bool.false_ne_true)] at kb
      obtain ⟨cs, ec, kc⟩ := bind_some kb
      refine iteF ⟨b1, ok1, cs, ec, fun b2 w H2 kb2 f2 ok2 hw => ?_⟩
      have ecs : (c2 b1 b2, s2 b1 b2) = cs := Option.some.inj kb2
      rw [← ecs] at kc
      rw [h2] at ok2
      exact q (b1, (c2 b1 b2, s2 b1 b2)) w H2 kc (f.trans f2) ok2 hw⟩⟩
end

/-! ### blocks -/
inductive Bo (S τ : Type) where
  | nx (s : S)
  | tm (t : τ)
inductive Tm (S ρ : Type) where
  | ct (s : S)
  | bk (s : S)
  | rt (r : ρ)
abbrev Cxt := Gm × Δs
def nxOk (F : Fm) (c : Cxt) (H : Hp) (n : SS → Hp → Prop) : Prop := ∀ σ' H', Fzs H H' → Ok F c.1 c.2 σ' H' → n σ' H'
theorem nxOk.mono {F : Fm} {c : Cxt} {H H' : Hp} {n : SS → Hp → Prop} (h : nxOk F c H n) (f : Fzs H H') : nxOk F c H' n := fun σ1 H1 f1 => h σ1 H1 (f.trans f1)
def fN {S : Type} (F : Fm) (C : S → Cxt) : Fn S := ⟨fun H s D => nxOk F (C s) H D.nx, fun h f => nxOk.mono h f⟩
def fB {S τ : Type} (F : Fm) (C : S → Cxt) (Tf : Fn τ) : Fn (Bo S τ) := ⟨fun H o D => match o with
  | .nx s => nxOk F (C s) H D.nx
  | .tm t => Tf.fin H t D, fun {H H' g D} h f => by
    cases g with
    | nx s => exact nxOk.mono h f
    | tm t => exact Tf.mono h f⟩
def fT {S ρ : Type} (F : Fm) (C : S → Cxt) (R : Rt ρ) : Fn (Tm S ρ) := ⟨fun H o D => match o with
  | .ct s => nxOk F (C s) H D.ct
  | .bk s => nxOk F (C s) H D.bk
  | .rt r => R r D.rt, fun {H H' g D} h f => by
    cases g with
    | ct s => exact nxOk.mono h f
    | bk s => exact nxOk.mono h f
    | rt r => exact h⟩
/-- the end hangs not on what follows -/
def Ins {γ : Type} (N : Fn γ) : Prop := ∀ H g D n, N.fin H g D → N.fin H g { D with nx := n }
theorem ins_F {ρ : Type} (R : Rt ρ) : Ins (fF R) := fun _ _ _ _ h => h
theorem ins_T {S ρ : Type} {F : Fm} {C : S → Cxt} {R : Rt ρ} : Ins (fT F C R) := fun H g D n h => by cases g <;> exact h
def inB {S τ : Type} (T : Option τ) : Option (Bo S τ) := T.bind fun t => some (.tm t)
def boK {S τ γ : Type} (k : S → Option γ) (ι : τ → γ) : Bo S τ → Option γ
  | .nx s => k s
  | .tm t => some (ι t)
variable {N : Fn γ} {rest : List Stmt}
/-- the block's end -/
theorem s_end {S : Type} {C : S → Cxt} {T : Option S} (s : S) (hT : T = some s) (g : SubG (C s).1 Γ) (h : (C s).2.Sublist Δ) : PSs X [] (tS F Γ Δ (fN F C) T) :=
  pss_nil.wk fun D σ H ⟨ok, g', e, f⟩ => by
    rw [hT] at e
    cases e
    exact f σ H (Fzs.refl H) (ok.wk g h)
theorem s_endB {S τ : Type} {C : S → Cxt} {Tf : Fn τ} (s : S) (g : SubG (C s).1 Γ) (h : (C s).2.Sublist Δ) : PSs X [] (tS F Γ Δ (fB F C Tf) (some (.nx s))) :=
  pss_nil.wk fun D σ H ⟨ok, g', e, f⟩ => by
    cases e
    exact f σ H (Fzs.refl H) (ok.wk g h)
theorem s_tm {S τ : Type} {C : S → Cxt} {Tf : Fn τ} {st : List Stmt} {T : Option τ} (h : PSs X st (tS F Γ Δ Tf T)) : PSs X st (tS F Γ Δ (fB F C Tf) (inB T)) :=
  h.wk fun D σ H ⟨ok, g', e, f⟩ => by
    obtain ⟨t, et, e2⟩ := bind_some e
    cases e2
    exact ⟨ok, t, et, f⟩
theorem s_brk {S ρ : Type} {C : S → Cxt} {R : Rt ρ} {pos : Pos} (s : S) (g : SubG (C s).1 Γ) (h : (C s).2.Sublist Δ) : PSs X [.Break pos] (tS F Γ Δ (fT F C R) (some (.bk s))) :=
  (pss_one ps_break).wk fun D σ H ⟨ok, g', e, f⟩ => by
    cases e
    exact f σ H (Fzs.refl H) (ok.wk g h)
theorem s_cont {S ρ : Type} {C : S → Cxt} {R : Rt ρ} {pos : Pos} (s : S) (g : SubG (C s).1 Γ) (h : (C s).2.Sublist Δ) : PSs X [.Continue pos] (tS F Γ Δ (fT F C R) (some (.ct s))) :=
  (pss_one ps_continue).wk fun D σ H ⟨ok, g', e, f⟩ => by
    cases e
    exact f σ H (Fzs.refl H) (ok.wk g h)
/-! ### if -/
section
variable {ce : Expr} {A B : List Stmt} {pos : Pos} {β : Type} {T : Option γ} {c : β → Bool} {Δ' : β → Δs}
theorem s_if0 {N1 N2 : Fn γ} {t : TS} {u : TS} {k : β → Option γ} (hc : PT X ce (tTs true F Γ Δ T k c Δ')) (ha : PSs X A t) (hb : PSs X B u) (hr : PSs X rest v) {t' : TS}
    (hw : ∀ D σ H, t' D σ H → Ok F Γ Δ σ H ∧ ∃ g, T = some g ∧ ∀ b H', k b = some g → St true H H' → Ok F Γ (Δ' b) σ H' → (c b = true → t { D with nx := v D } σ H') ∧ (c b = false → u { D with nx := v D } σ H')) : PSs X (.If ce A B pos :: rest) t' :=
  (pss_cons (ps_if hc ha hb) hr).wk fun D σ H h => by
    obtain ⟨ok, g, e, q⟩ := hw D σ H h
    refine ⟨ok, g, e, fun b H' kb f ok' => ?_⟩
    obtain ⟨q1, q2⟩ := q b H' kb f ok'
    cases hcb : c b with
    | true => exact iteT (q1 hcb)
    | false => exact iteF (q2 hcb)
/-- the first part ends the block: what follows is the other way -/
theorem s_ifT {T1 T2 : β → Option γ} (hI : Ins N) (hc : PT X ce (tTs true F Γ Δ T (fun b => if c b = true then T1 b else T2 b) c Δ')) (ha : ∀ b, PSs X A (tS F Γ (Δ' b) N (T1 b))) (hr : ∀ b, PSs X rest (tS F Γ (Δ' b) N (T2 b))) : PSs X (.If ce A [] pos :: rest) (tS F Γ Δ N T) :=
  s_if0 (N1 := N) (N2 := N) hc (pss_ex ha) pss_nil (pss_ex hr) fun D σ H ⟨ok, g, e, f⟩ => ⟨ok, g, e, fun b H' kb fz ok' => ⟨fun h => by
    try dsimp only at kb
    rw [if_pos h] at kb
    exact ⟨b, ok', g, kb, hI _ _ _ _ (N.mono f fz.fz)⟩, fun h => by
    try dsimp only at kb
    rw [if_neg (by rw [h]; exact Bool.false_ne_true)] at kb
    exact ⟨b, ok', g, kb, N.mono f fz.fz⟩⟩⟩
/-- .. in a block that goes on -/
theorem s_ifB {S τ : Type} {C : S → Cxt} {Tf : Fn τ} {T : Option (Bo S τ)} {T1 : β → Option τ} {T2 : β → Option (Bo S τ)} (hI : Ins Tf) (hc : PT X ce (tTs true F Γ Δ T (fun b => if c b = true then inB (T1 b) else T2 b) c Δ')) (ha : ∀ b, PSs X A (tS F Γ (Δ' b) Tf (T1 b))) (hr : ∀ b, PSs X rest (tS F Γ (Δ' b) (fB F C Tf) (T2 b))) : PSs X (.If ce A [] pos :: rest) (tS F Γ Δ (fB F C Tf) T) :=
  s_if0 (N1 := fB F C Tf) (N2 := fB F C Tf) hc (pss_ex ha) pss_nil (pss_ex hr) fun D σ H ⟨ok, g, e, f⟩ => ⟨ok, g, e, fun b H' kb fz ok' => ⟨fun h => by
    try dsimp only at kb
    rw [if_pos h] at kb
    obtain ⟨t, et, e2⟩ := bind_some kb
    cases e2
    exact ⟨b, ok', t, et, hI _ _ _ _ (Tf.mono f fz.fz)⟩, fun h => by
    try dsimp only at kb
    rw [if_neg (by rw [h]; exact Bool.false_ne_true)] at kb
    exact ⟨b, ok', g, kb, (fB F C Tf).mono f fz.fz⟩⟩⟩
/-- both parts end the block -/
theorem s_ifE {T1 T2 : β → Option γ} (hI : Ins N) (hc : PT X ce (tTs true F Γ Δ T (fun b => if c b = true then T1 b else T2 b) c Δ')) (ha : ∀ b, PSs X A (tS F Γ (Δ' b) N (T1 b))) (hb : ∀ b, PSs X B (tS F Γ (Δ' b) N (T2 b))) : PSs X [.If ce A B pos] (tS F Γ Δ N T) :=
  s_if0 (N1 := N) (N2 := N) hc (pss_ex ha) (pss_ex hb) pss_nil fun D σ H ⟨ok, g, e, f⟩ => ⟨ok, g, e, fun b H' kb fz ok' => ⟨fun h => by
    try dsimp only at kb
    rw [if_pos h] at kb
    exact ⟨b, ok', g, kb, hI _ _ _ _ (N.mono f fz.fz)⟩, fun h => by
    try dsimp only at kb
    rw [if_neg (by rw [h]; exact Bool.false_ne_true)] at kb
    exact ⟨b, ok', g, kb, hI _ _ _ _ (N.mono f fz.fz)⟩⟩⟩
/-- both parts go on -/
theorem s_ifN {S : Type} {C : S → Cxt} {T1 T2 : β → Option S} {k2 : β → S → Option γ} (hc : PT X ce (tTs true F Γ Δ T (fun b => (if c b = true then T1 b else T2 b).bind (k2 b)) c Δ')) (ha : ∀ b, PSs X A (tS F Γ (Δ' b) (fN F C) (T1 b))) (hb : ∀ b, PSs X B (tS F Γ (Δ' b) (fN F C) (T2 b)))
    (hr : ∀ b s, PSs X rest (tS F (C s).1 (C s).2 N (k2 b s))) : PSs X (.If ce A B pos :: rest) (tS F Γ Δ N T) :=
  s_if0 (N1 := N) (N2 := N) hc (pss_ex ha) (pss_ex hb) (pss_ex fun b => pss_ex fun s => hr b s) fun D σ H ⟨ok, g, e, f⟩ => ⟨ok, g, e, fun b H' kb fz ok' => by
    obtain ⟨s, es, ks⟩ := bind_some kb
    refine ⟨fun h => ?_, fun h => ?_⟩
    · rw [if_pos h] at es
      exact ⟨b, ok', s, es, fun σ2 H2 f2 ok2 => ⟨b, s, ok2, g, ks, N.mono f (fz.fz.trans f2)⟩⟩
    · rw [if_neg (by rw [h]; exact Bool.false_ne_true)] at es
      exact ⟨b, ok', s, es, fun σ2 H2 f2 ok2 => ⟨b, s, ok2, g, ks, N.mono f (fz.fz.trans f2)⟩⟩⟩
/-- each part goes on, or ends the block -/
theorem s_ifM {S τ : Type} {C : S → Cxt} {Tf : Fn τ} {ι : τ → γ} {T1 T2 : β → Option (Bo S τ)} {k2 : β → S → Option γ} (hI : Ins Tf) (hι : ∀ H t D, N.fin H (ι t) D → Tf.fin H t D) (hc : PT X ce (tTs true F Γ Δ T (fun b => (if c b = true then T1 b else T2 b).bind (boK (k2 b) ι)) c Δ'))
    (ha : ∀ b, PSs X A (tS F Γ (Δ' b) (fB F C Tf) (T1 b))) (hb : ∀ b, PSs X B (tS F Γ (Δ' b) (fB F C Tf) (T2 b))) (hr : ∀ b s, PSs X rest (tS F (C s).1 (C s).2 N (k2 b s))) : PSs X (.If ce A B pos :: rest) (tS F Γ Δ N T) :=
  s_if0 (N1 := N) (N2 := N) hc (pss_ex ha) (pss_ex hb) (pss_ex fun b => pss_ex fun s => hr b s) fun D σ H ⟨ok, g, e, f⟩ => ⟨ok, g, e, fun b H' kb fz ok' => by
    obtain ⟨o, es, ks⟩ := bind_some kb
    have fin : (fB F C Tf).fin H' o { D with nx := fun σ H => ∃ b s, tS F (C s).1 (C s).2 N (k2 b s) D σ H } := by
      cases o with
      | nx s => exact fun σ2 H2 f2 ok2 => ⟨b, s, ok2, g, ks, N.mono f (fz.fz.trans f2)⟩
      | tm t =>
        have eg : ι t = g := Option.some.inj ks
        subst eg
        exact hI _ _ _ _ (hι _ _ _ (N.mono f fz.fz))
    refine ⟨fun h => ?_, fun h => ?_⟩
    · rw [if_pos h] at es
      exact ⟨b, ok', o, es, fin⟩
    · rw [if_neg (by rw [h]; exact Bool.false_ne_true)] at es
      exact ⟨b, ok', o, es, fin⟩⟩
end
end
end L3
end
section
set_option Elab.async false
set_option linter.all false
set_option maxRecDepth 100000
set_option maxHeartbeats 4000000
namespace L3
open PySem PySem.Spec PyProof.Rows L2
section
variable {X : Cx} {W : Bool} {F : Fm} {Γ : Gm} {Δ : Δs} {γ : Type}
/-! ### lists that are read: locked, or a cell of one's own -/
def RL {α : Type} (E : α → Pd) (xs : List α) (H : Hp) (v : V) : Prop := ∃ a vs, v = .ref a ∧ Rd H a (.lst vs) ∧ xs.length ≤ sizeLine ∧ Paired (fun x u => (E x).pr H u) xs vs
def RdL {α : Type} (Δ : Δs) (p : Pd) (E : α → Pd) (xs : List α) : Prop := ∀ F H v, Hk F Δ H → p.pr H v → RL E xs H v
theorem rdF {α : Type} {E : α → Pd} {xs : List α} : RdL Δ (pL E xs) E xs := fun _ _ _ _ ⟨a, o, vs, e, h, z, p⟩ => ⟨a, vs, e, .inr ⟨o, h⟩, z, p⟩
theorem rdO {α : Type} {E : α → Pd} {xs : List α} {v : V} {prm : Option Nat} (j : Nat) (h : Δ[j]? = some ⟨v, oL E xs, prm⟩ := by rfl) : RdL Δ (pV v) E xs := fun F H w hk e => by
  have e : w = v := e
  subst e
  obtain ⟨G, p, vs, _, ev, hp, z, q⟩ := hk.at h
  exact ⟨p, vs, ev, .inl hp, z, q⟩
theorem RL.sq {α : Type} {E : α → Pd} {xs : List α} {H : Hp} {v : V} {K : PySem.W.Frag} (h : RL E xs H v) : ∃ a vs, v = .ref a ∧ SqL K H a vs ∧ xs.length ≤ sizeLine ∧ Paired (fun x u => (E x).pr H u) xs vs := by
  obtain ⟨a, vs, e, r, z, p⟩ := h
  exact ⟨a, vs, e, .inl r, z, p⟩
/-! ### paired lists -/
theorem paired_at {α β : Type} {P : α → β → Prop} : ∀ {xs : List α} {vs : List β} {i : Nat} {x : α}, Paired P xs vs → xs[i]? = some x → ∃ v, vs[i]? = some v ∧ P x v
  | _, _, _, _, .nil, e => by simp at e
  | _, _, 0, _, .cons r _, e => by simp at e; subst e; exact ⟨_, rfl, r⟩
  | _, _, i + 1, x, .cons _ t, e => by
    obtain ⟨v, h1, h2⟩ := paired_at (i := i) (x := x) t (by simpa using e)
    exact ⟨v, by simpa using h1, h2⟩
theorem paired_atI {α β : Type} {P : α → β → Prop} {xs : List α} {vs : List β} {i : Int} {x : α} (h : Paired P xs vs) (e : atI xs i = some x) : ∃ v, atI vs i = some v ∧ P x v := by
  unfold atI at e ⊢
  rw [← paired_len h]
  obtain ⟨j, ej, ex⟩ := bind_some e
  obtain ⟨v, hv, p⟩ := paired_at h ex
  exact ⟨v, by rw [ej]; exact hv, p⟩
theorem paired_app {α β : Type} {P : α → β → Prop} : ∀ {xs ys : List α} {vs ws : List β}, Paired P xs vs → Paired P ys ws → Paired P (xs ++ ys) (vs ++ ws)
  | _, _, _, _, .nil, s => s
  | _, _, _, _, .cons r t, s => .cons r (paired_app t s)
theorem paired_drop {α β : Type} {P : α → β → Prop} : ∀ (n : Nat) {xs : List α} {vs : List β}, Paired P xs vs → Paired P (xs.drop n) (vs.drop n)
  | 0, _, _, h => h
  | _ + 1, _, _, .nil => .nil
  | n + 1, _, _, .cons _ t => paired_drop n t
theorem paired_take {α β : Type} {P : α → β → Prop} : ∀ (n : Nat) {xs : List α} {vs : List β}, Paired P xs vs → Paired P (xs.take n) (vs.take n)
  | 0, _, _, _ => .nil
  | _ + 1, _, _, .nil => .nil
  | n + 1, _, _, .cons r t => .cons r (paired_take n t)
theorem paired_set {α β : Type} {P : α → β → Prop} {x : α} {v : β} (r : P x v) : ∀ {xs : List α} {vs : List β} (i : Nat), Paired P xs vs → Paired P (xs.set i x) (vs.set i v)
  | _, _, _, .nil => .nil
  | _, _, 0, .cons _ t => .cons r t
  | _, _, i + 1, .cons q t => .cons q (paired_set r i t)
theorem paired_rev {α β : Type} {P : α → β → Prop} : ∀ {xs : List α} {vs : List β}, Paired P xs vs → Paired P xs.reverse vs.reverse
  | _, _, .nil => .nil
  | _, _, .cons r t => by
    rw [List.reverse_cons, List.reverse_cons]
    exact paired_app (paired_rev t) (.cons r .nil)
theorem paired_ints {H : Hp} : ∀ {xs : List Int} {vs : List V}, Paired (fun x u => (pInt x).pr H u) xs vs → vs = xs.map V.int
  | _, _, .nil => rfl
  | _, _, .cons r t => by rw [List.map_cons, ← paired_ints t]; exact congrArg (· :: _) r
theorem paired_strs {H : Hp} : ∀ {xs : List Str} {vs : List V}, Paired (fun x u => (pStr x).pr H u) xs vs → vs = xs.map V.str
  | _, _, .nil => rfl
  | _, _, .cons r t => by rw [List.map_cons, ← paired_strs t]; exact congrArg (· :: _) r
theorem paired_bls {H : Hp} : ∀ {xs : List Bool} {vs : List V}, Paired (fun x u => (pBl x).pr H u) xs vs → vs = xs.map V.bl
  | _, _, .nil => rfl
  | _, _, .cons r t => by rw [List.map_cons, ← paired_bls t]; exact congrArg (· :: _) r
theorem ints_paired {H : Hp} : ∀ xs : List Int, Paired (fun x u => (pInt x).pr H u) xs (xs.map V.int)
  | [] => .nil
  | _ :: xs => .cons rfl (ints_paired xs)
theorem strs_paired {H : Hp} : ∀ xs : List Str, Paired (fun x u => (pStr x).pr H u) xs (xs.map V.str)
  | [] => .nil
  | _ :: xs => .cons rfl (strs_paired xs)
/-! ### list operations -/
section
variable {a b : Expr} {pos : Pos} {β1 β2 α : Type} {T : Option γ} {k1 : β1 → Option γ} {Δ1 : β1 → Δs} {Δ2 : β1 → β2 → Δs} {E1 : β1 → Pd} {Ee : α → Pd} {xs : β1 → β2 → List α} {j : β1 → β2 → Int}
/-- xs[i] -/
theorem x_ixL {k : (β1 × β2) × α → Option γ} (ha : PE X a (tE W F Γ Δ T k1 E1 Δ1)) (hb : ∀ b1, PE X b (tE W F Γ (Δ1 b1) (k1 b1) (fun b2 => (atI (xs b1 b2) (j b1 b2)).bind fun x => k ((b1, b2), x)) (fun b => pInt (j b1 b)) (Δ2 b1)))
    (rd : ∀ b1 b2, RdL (Δ2 b1 b2) (E1 b1) Ee (xs b1 b2)) (hs : PlainIx b := by exact fun _ _ => rfl) : PE X (.Subscript a b pos) (tE W F Γ Δ T k (fun b => Ee b.2) fun b => Δ2 b.1.1 b.1.2) :=
  x2p (b_ix ix_list hs) ha hb fun b1 b2 x σ v w H Q ok e hv hw q => by
    obtain ⟨p, vs, ev, sq, _, pr⟩ := (rd b1 b2 F H v ok.hk hv).sq (K := X.K)
    obtain ⟨u, eu, pu⟩ := paired_atI pr e
    exact ⟨p, vs, j b1 b2, u, ev, hw, sq, eu, q u pu⟩
end
section
variable {a : Expr} {pos p : Pos} {β α : Type} {T : Option γ} {Δ1 : β → Δs} {E1 : β → Pd} {Ee : α → Pd} {xs : β → List α} {k : β → Option γ}
/-- len(xs) -/
theorem x_lenL (hm : X.mg "len" = none) (ha : PE X a (tE W F Γ Δ T k E1 Δ1)) (rd : ∀ b, RdL (Δ1 b) (E1 b) Ee (xs b)) (hg : Gl X "len" := by rfl) (hs : starEach [a] X.env = (false, eval a X.env) :: starEach [] X.env := by rfl) : PE X (.Call (.Name "len" p) [a] [] pos) (tE W F Γ Δ T k (fun b => pInt ((xs b).length : Int)) Δ1) :=
  x1t (u_callB call_len_seq hg hm PySem.boot_len (by decide) (by decide) hs) ha fun b σ v H Q ok hv q => by
    obtain ⟨p, vs, ev, sq, _, pr⟩ := (rd b F H v ok.hk hv).sq (K := X.K)
    rw [ev]
    exact ⟨p, vs, rfl, .inl sq, by rw [← paired_len pr]; exact q _ rfl⟩
/-- int(n) -/
theorem x_intI {i : β → Int} (hm : X.mg "int" = none) (ha : PE X a (tE W F Γ Δ T k (fun b => pInt (i b)) Δ1)) (hg : Gl X "int" := by rfl) (hs : starEach [a] X.env = (false, eval a X.env) :: starEach [] X.env := by rfl) : PE X (.Call (.Name "int" p) [a] [] pos) (tE W F Γ Δ T k (fun b => pInt (i b)) Δ1) :=
  x1t (u_callTy call_int1 hg hm (by decide +kernel) (by decide) (by decide) hs) ha fun b σ v H Q ok hv q => .inl ⟨i b, by rw [show v = .int (i b) from hv], q _ rfl⟩
theorem x_intB {c : β → Bool} (hm : X.mg "int" = none) (ha : PE X a (tE W F Γ Δ T k (fun b => pBl (c b)) Δ1)) (hg : Gl X "int" := by rfl) (hs : starEach [a] X.env = (false, eval a X.env) :: starEach [] X.env := by rfl) : PE X (.Call (.Name "int" p) [a] [] pos) (tE W F Γ Δ T k (fun b => pInt (if c b then 1 else 0)) Δ1) :=
  x1t (u_callTy call_int1 hg hm (by decide +kernel) (by decide) (by decide) hs) ha fun b σ v H Q ok hv q => .inr ⟨c b, by rw [show v = .bl (c b) from hv], q _ rfl⟩
/-- list(xs) -/
theorem x_listL (hm : X.mg "list" = none) (ha : PE X a (tE W F Γ Δ T k E1 Δ1)) (rd : ∀ b, RdL (Δ1 b) (E1 b) Ee (xs b)) (hg : Gl X "list" := by rfl) (hs : starEach [a] X.env = (false, eval a X.env) :: starEach [] X.env := by rfl) : PE X (.Call (.Name "list" p) [a] [] pos) (tO W F Γ Δ T k (fun b => oL Ee (xs b)) Δ1) :=
  x1n (u_callTy call_list_of hg hm (by decide +kernel) (by decide) (by decide) hs) ha fun b σ v H Q ok hv q => by
    obtain ⟨p, vs, ev, sq, z, pr⟩ := (rd b F H v ok.hk hv).sq (K := X.K)
    rw [ev]
    exact ⟨p, vs, rfl, .inl sq, fun l hl => q l vs hl z pr⟩
end
/-! ### stores -/
section
variable {N : Fn γ} {rest : List Stmt}
/-- xs[i] = e -/
theorem s_setL {o i e : Expr} {pos pos' : Pos} {β0 β1 β2 α : Type} {T : Option γ} {k0 : β0 → Option γ} {k1 : β0 → β1 → Option γ} {k : (β0 × β1) × β2 → Option γ} {Δ0 : β0 → Δs} {Δ1 : β0 → β1 → Δs} {Δ2 : β0 → β1 → β2 → Δs} {Ee : α → Pd} {y : β0 → α} {n : β0 → β1 → β2 → Int} {xs : β0 → β1 → β2 → List α} {v : V} {prm : Option Nat} (j : Nat)
    (he : PE X e (tE true F Γ Δ T k0 (fun b => Ee (y b)) Δ0)) (ho : ∀ b0, PE X o (tE true F Γ (Δ0 b0) (k0 b0) (k1 b0) (fun _ => pV v) (Δ1 b0)))
    (hi : ∀ b0 b1, PE X i (tE true F Γ (Δ1 b0 b1) (k1 b0 b1) (fun b2 => (ixN (xs b0 b1 b2).length (n b0 b1 b2)).bind fun m => (fun (_ : Nat) => k ((b0, b1), b2)) m) (fun b2 => pInt (n b0 b1 b2)) (Δ2 b0 b1)))
    (hj : ∀ b0 b1 b2, (Δ2 b0 b1 b2)[j]? = some ⟨v, oL Ee (xs b0 b1 b2), prm⟩)
    (hr : ∀ b : (β0 × β1) × β2, PSs X rest (tS F Γ ((Δ2 b.1.1 b.1.2 b.2).set j ⟨v, oL Ee ((xs b.1.1 b.1.2 b.2).set ((ixN (xs b.1.1 b.1.2 b.2).length (n b.1.1 b.1.2 b.2)).getD 0) (y b.1.1)), prm⟩) N (k b)))
    (hs : swapsWithSole [.Subscript o i pos'] e pos.line X.env = pure false := by rfl) (hw : swappedStores [.Subscript o i pos'] e X.env = pure none := by rfl) (h1 : (assignEach [.Subscript o i pos'] X.env).map (·.2) = [assign (.Subscript o i pos') X.env] := by rfl)
    (ha : ∀ v, assign (.Subscript o i pos') X.env v = (do
      let ov ← holding [v] (eval o X.env)
      let iv ← holding [v, ov] (eval i X.env)
      standAt pos'
      holding [v, ov, iv] (setItem ov iv v)
      release [v, ov, iv] []) := by intro _; rfl) :
    PSs X (.Assign [.Subscript o i pos'] e pos :: rest) (tS F Γ Δ N T) :=
  (pss_cons (ps_asg he (pg_sub (pe_ex ho) (pe_ex fun b0 => pe_ex fun b1 => hi b0 b1) set_list ha) hs hw h1) (pss_ex hr)).wk fun D σ H ⟨ok, g, e, f⟩ => ⟨ok, g, e, fun b0 u H0 kb0 f0 ok0 hu => ⟨b0, ok0, g, kb0, fun b1 w H1 kb1 f1 ok1 hw => ⟨b0, b1, ok1, g, kb1, fun b2 z H2 kb2 f2 ok2 hz => by
    obtain ⟨m, em, km⟩ := bind_some kb2
    have hw : w = v := hw
    have hz : z = .int (n b0 b1 b2) := hz
    subst hw hz
    obtain ⟨G, ⟨p, vs, eG, ev, hp, zz, pr⟩, nd, turn⟩ := ok2.cell (hj b0 b1 b2)
    refine ⟨p, vs, n b0 b1 b2, m, ev, rfl, hp, by rw [← paired_len pr]; exact em, ((b0, b1), b2), ?_⟩
    have hu2 : (Ee (y b0)).pr H2 u := (Ee (y b0)).mono (f1.fz.trans f2.fz) hu
    have fzm : Fzs H2 (upd H2 p (.lst (vs.set m u))) := Fzs.mut hp fun z => z
    obtain ⟨ok3, f3⟩ := turn (upd H2 p (.lst (vs.set m u))) (oL Ee ((xs b0 b1 b2).set m (y b0))) (fun a o na e => by
      rw [upd_ne fun q => na (by
        show a ∈ G
        have eG : G = [p] := eG
        rw [eG, q]; exact List.mem_singleton.mpr rfl)]
      exact e) ⟨p, vs.set m u, eG, ev, upd_same, by rw [List.length_set]; exact zz, paired_set (P := fun x q => (Ee x).pr (upd H2 p (.lst (vs.set m u))) q) ((Ee _).mono fzm hu2) m (paired_mono (fun x _ => (Ee x).mono fzm) pr)⟩
    have em2 : (ixN (xs b0 b1 b2).length (n b0 b1 b2)).getD 0 = m := by rw [em]; rfl
    show tS F Γ _ N (k ((b0, b1), b2)) D σ _
    rw [em2]
    exact ⟨ok3, g, km, N.mono f (((f0.fz.trans f1.fz).trans f2.fz).trans f3.fz)⟩⟩⟩⟩
end
end
end L3
end
section
set_option Elab.async false
set_option linter.all false
set_option maxRecDepth 100000
set_option maxHeartbeats 4000000
namespace L3
open PySem PySem.Spec PyProof.Rows L2
theorem start_gam {H : Hp} : ∀ {ps : List Pd} {vs : List V} {m : Nat}, Paired (fun p v => Pd.pr p H v) ps vs → ∀ (i : Nat) (p : Pd), (ps.map some ++ List.replicate m none)[i]? = some (some p) → ∃ v, (vs.map some ++ List.replicate m none)[i]? = some (some v) ∧ p.pr H v
  | [], _, m, .nil, i, p, e => by
    have e : (List.replicate m (none : Option Pd))[i]? = some (some p) := e
    rw [List.getElem?_replicate] at e
    split at e <;> cases e
  | _ :: _, _ :: _, m, .cons r t, 0, p, e => by
    have e : some (some _) = some (some p) := e
    cases e
    exact ⟨_, rfl, r⟩
  | _ :: _, _ :: _, m, .cons r t, i + 1, p, e => start_gam t i p e
/-- a def's start: its parameters, the things of its caller's that are handed over -/
theorem ok_start {ps : List Pd} {vs : List V} {N : List Str} {H : Hp} {Δ : List Cel} {n : Nat} (hn : vs.length = n) (h : Paired (fun p v => Pd.pr p H v) ps vs) (hd : ∀ c ∈ Δ, c.d.pr c.G H c.v) (nd : (cellsOf Δ).Nodup) (hp : ∀ (i : Nat) (c : Cel), Δ[i]? = some c → c.prm = some i) :
    Ok ⟨H, Δ.map Cel.G⟩ (ps.map some ++ List.replicate (N.length - n) none) (Δ.map Cel.fg) (L2.start N vs) H := by
  subst hn
  refine ⟨⟨Δ, rfl, fun _ _ e _ => e, hd, nd, fun c hc a ha => .inr ?_, fun m hm a ha => ?_⟩, ?_, fun i p e => start_gam h i p e⟩
  · obtain ⟨i, hi⟩ := List.getElem?_of_mem hc
    exact ⟨i, c.G, hp i c hi, by rw [List.getElem?_map, hi]; rfl, ha⟩
  · obtain ⟨c, hc, e⟩ := List.mem_map.mp hm
    subst e
    obtain ⟨o, e, _⟩ := c.d.cellsN (hd c hc) a ha
    exact ⟨o, e⟩
  · unfold L2.start
    rw [List.length_append, List.length_append, List.length_map, List.length_map, List.length_replicate, List.length_replicate, paired_len h]
section
variable {F : Fm} {Γ : Gm} {Δ : Δs} {σ : SS} {H H' : Hp} {W : Bool}
theorem call_f0 (ok : Ok F Γ Δ σ H) (hk : Hk ⟨H, []⟩ [] H') : Ok F Γ Δ σ H' ∧ St W H H' := by
  obtain ⟨_, _, hk⟩ := hk
  have g : Gr H H' := fun a o e => hk.base a o e fun _ h => nomatch h
  exact ⟨ok.gr g, g.st⟩
theorem call_o0 {v : V} {d : Od} (ok : Ok F Γ Δ σ H) (hk : Hk ⟨H, []⟩ [⟨v, d, none⟩] H') : OkN W F Γ H v d Δ σ H' ∧ St W H H' := by
  obtain ⟨Δ0, e, hk⟩ := hk
  match Δ0, e with
  | [⟨G, _, _, _⟩], e =>
    cases e
    have g : Gr H H' := fun a o e => hk.base a o e fun _ h => nomatch h
    have nw : ∀ a ∈ G, H a = none := fun a ha => by
      rcases hk.own _ (List.mem_singleton.mpr rfl) a ha with z | ⟨i, m, z, _⟩
      · exact z
      · cases z
    exact ⟨ok.add g hk.ndup.1 nw (hk.del _ (List.mem_singleton.mpr rfl)), g.st⟩
/-- the cells of Δ1 are handed to a def, and come back -/
theorem lendO {Δ1 Δ2 : List Cel} (k : HkO F (Δ1 ++ Δ2) H) {Δ1' N : List Cel} (hk : HkO ⟨H, Δ1.map Cel.G⟩ (N ++ Δ1') H') (hl : Δ1'.length = Δ1.length) (hi : ∀ (i : Nat) (c : Cel), Δ1'[i]? = some c → c.prm = some i) (hN : ∀ c ∈ N, c.prm = none) {Δ1o : List Cel} (ho : Δ1o.length = Δ1.length) (hoe : ∀ (i : Nat) (c c' e : Cel), Δ1[i]? = some c → Δ1'[i]? = some c' → Δ1o[i]? = some e → e = ⟨c'.G, c'.v, c'.d, c.prm⟩) :
    HkO F (N ++ Δ1o ++ Δ2) H' ∧ St true H H' ∧ ∀ c ∈ N, ∀ a ∈ c.G, H a = none := by
  have hG : ∀ a, a ∈ cellsOf Δ1 ↔ ∃ m ∈ Δ1.map Cel.G, a ∈ m := fun a => by
    unfold cellsOf
    rw [List.mem_flatMap]
    constructor
    · rintro ⟨c, hc, ha⟩; exact ⟨c.G, List.mem_map.mpr ⟨c, hc, rfl⟩, ha⟩
    · rintro ⟨m, hm, ha⟩
      obtain ⟨c, hc, e⟩ := List.mem_map.mp hm
      subst e
      exact ⟨c, hc, ha⟩
  have kp : ∀ a o, a ∉ cellsOf Δ1 → H a = some o → H' a = some o := fun a o n e => hk.base a o e fun m hm ha => n ((hG a).mpr ⟨m, hm, ha⟩)
  have k1 : HkO F Δ1 H := k.less (List.sublist_append_left _ _)
  have k2 : HkO F Δ2 H := k.less (List.sublist_append_right _ _)
  have fz : Fzs H H' := fun a o p e => kp a o (fun ha => by
    obtain ⟨u, eu, nu⟩ := k1.isC ha
    rw [e] at eu; cases eu; exact nu p) e
  have dom : ∀ a o, H a = some o → ∃ u, H' a = some u := fun a o e => by
    by_cases ha : a ∈ cellsOf Δ1
    · obtain ⟨m, hm, ha⟩ := (hG a).mp ha
      exact hk.mem m hm a ha
    · exact ⟨o, kp a o ha e⟩
  have nd := k.nod
  rw [cellsOf_app] at nd
  obtain ⟨nd1, nd2, nd3⟩ := List.nodup_append.mp nd
  -- what a cell of the def's end owns
  have ownN : ∀ c ∈ N, ∀ a ∈ c.G, H a = none := fun c hc a ha => by
    rcases hk.own c (List.mem_append_left _ hc) a ha with z | ⟨i, m, z, _⟩
    · exact z
    · rw [hN c hc] at z; cases z
  have own1 : ∀ (i : Nat) (c' : Cel), Δ1'[i]? = some c' → ∀ a ∈ c'.G, H a = none ∨ ∃ c, Δ1[i]? = some c ∧ a ∈ c.G := fun i c' h a ha => by
    rcases hk.own c' (List.mem_append_right _ (List.mem_of_getElem? h)) a ha with z | ⟨q, m, z, hm, hin⟩
    · exact .inl z
    · rw [hi i c' h] at z
      cases z
      have hm : (Δ1.map Cel.G)[i]? = some m := hm
      rw [List.getElem?_map] at hm
      cases e : Δ1[i]? with
      | none => rw [e] at hm; cases hm
      | some c =>
        rw [e] at hm
        cases hm
        exact .inr ⟨c, rfl, hin⟩
  have cof : ∀ (i : Nat) (e : Cel), Δ1o[i]? = some e → ∃ c c', Δ1[i]? = some c ∧ Δ1'[i]? = some c' ∧ e = ⟨c'.G, c'.v, c'.d, c.prm⟩ := fun i e h => by
    have hl1 : i < Δ1o.length := by
      by_cases x : i < Δ1o.length
      · exact x
      · rw [List.getElem?_eq_none (by omega)] at h; cases h
    have e1 := List.getElem?_eq_getElem (l := Δ1) (i := i) (by omega)
    have e2 := List.getElem?_eq_getElem (l := Δ1') (i := i) (by omega)
    exact ⟨_, _, e1, e2, hoe i _ _ e e1 e2 h⟩
  have eqG : Δ1o.map Cel.G = Δ1'.map Cel.G := by
    apply List.ext_getElem?
    intro i
    rw [List.getElem?_map, List.getElem?_map]
    by_cases hl1 : i < Δ1o.length
    · obtain ⟨c, c', _, e2, e3⟩ := cof i _ (List.getElem?_eq_getElem hl1)
      rw [List.getElem?_eq_getElem hl1, e2, e3]
      rfl
    · rw [List.getElem?_eq_none (by omega), List.getElem?_eq_none (by omega)]
  have eqC : cellsOf Δ1o = cellsOf Δ1' := by
    unfold cellsOf
    rw [List.flatMap_def, List.flatMap_def, eqG]
  refine ⟨⟨fun a o e m => kp a o (fun ha => ?_) (k.base a o e m), fun c hc => ?_, ?_, fun c hc a ha => ?_, fun m hm a ha => ?_⟩, ⟨fz, (fun h => nomatch h), dom⟩, ownN⟩
  · obtain ⟨c, hc, ha⟩ := List.mem_flatMap.mp ha
    rcases k1.own c hc a ha with z | ⟨i, w, _, hw, z⟩
    · rw [e] at z; cases z
    · exact m w (List.mem_of_getElem? hw) z
  · rcases List.mem_append.mp hc with hc | hc
    · rcases List.mem_append.mp hc with hc | hc
      · exact hk.del c (List.mem_append_left _ hc)
      · obtain ⟨i, h⟩ := List.getElem?_of_mem hc
        obtain ⟨d, d', _, e2, e3⟩ := cof i c h
        subst e3
        exact hk.del d' (List.mem_append_right _ (List.mem_of_getElem? e2))
    · exact c.d.frame (k2.del c hc) (fun a ha o q => kp a o (fun h1 => nd3 a h1 a (mem_cellsOf hc ha) rfl) q) fz
  · rw [cellsOf_app, cellsOf_app, eqC, ← cellsOf_app]
    refine List.nodup_append.mpr ⟨hk.nod, nd2, fun a ha b hb e => ?_⟩
    subst e
    obtain ⟨o2, e2, _⟩ := k2.isC hb
    rw [cellsOf_app] at ha
    rcases List.mem_append.mp ha with ha | ha
    · obtain ⟨c, hc, ha⟩ := List.mem_flatMap.mp ha
      rw [ownN c hc a ha] at e2; cases e2
    · obtain ⟨c', hc, ha⟩ := List.mem_flatMap.mp ha
      obtain ⟨i, h⟩ := List.getElem?_of_mem hc
      rcases own1 i c' h a ha with z | ⟨c, e1, z⟩
      · rw [z] at e2; cases e2
      · exact nd3 a (mem_cellsOf (List.mem_of_getElem? e1) z) a hb rfl
  · rcases List.mem_append.mp hc with hc | hc
    · rcases List.mem_append.mp hc with hc | hc
      · exact .inl (k.fresh0 (ownN c hc a ha))
      · obtain ⟨i, h⟩ := List.getElem?_of_mem hc
        obtain ⟨d, d', e1, e2, e3⟩ := cof i c h
        subst e3
        rcases own1 i d' e2 a ha with z | ⟨c, e4, z⟩
        · exact .inl (k.fresh0 z)
        · rw [e1] at e4
          cases e4
          exact k1.own d (List.mem_of_getElem? e1) a z
    · exact k2.own c hc a ha
  · obtain ⟨o, e⟩ := k.mem m hm a ha
    exact dom a o e
theorem map_one {Δ1 : List Cel} {c : Cell} (e : Δ1.map Cel.fg = [c]) : ∃ G, Δ1 = [⟨G, c.v, c.d, c.prm⟩] := by
  cases Δ1 with
  | nil => cases e
  | cons y r =>
    cases r with
    | cons _ _ => cases e
    | nil => cases e; exact ⟨y.G, rfl⟩
theorem map_two {Δ1 : List Cel} {c d : Cell} (e : Δ1.map Cel.fg = [c, d]) : ∃ G G2, Δ1 = [⟨G, c.v, c.d, c.prm⟩, ⟨G2, d.v, d.d, d.prm⟩] := by
  cases Δ1 with
  | nil => cases e
  | cons y r =>
    cases r with
    | nil => cases e
    | cons z r =>
      cases r with
      | cons _ _ => cases e
      | nil => cases e; exact ⟨y.G, z.G, rfl⟩
/-- one cell is handed to a def -/
theorem Ok.lend1 {j : Nat} {c : Cell} (ok : Ok F Γ Δ σ H) (hj : Δ[j]? = some c) : ∃ G, c.d.pr G H c.v ∧ G.Nodup ∧ (∀ H' d', Hk ⟨H, [G]⟩ [⟨c.v, d', some 0⟩] H' → Ok F Γ (Δ.set j { c with d := d' }) σ H' ∧ St true H H') ∧
    ∀ H' d' v2 d2, Hk ⟨H, [G]⟩ [⟨v2, d2, none⟩, ⟨c.v, d', some 0⟩] H' → OkN true F Γ H v2 d2 (Δ.set j { c with d := d' }) σ H' ∧ St true H H' := by
  obtain ⟨⟨Δ0, e, k⟩, n⟩ := ok
  subst e
  obtain ⟨A, x, B, e0, el, ex⟩ := map_at hj
  subst e0
  subst ex
  have k1 : HkO F ([x] ++ (A ++ B)) H := k.perm mid_perm
  have nd := (k.perm mid_perm).ndup.1
  refine ⟨x.G, k1.del x List.mem_cons_self, nd, fun H' d' hk => ?_, fun H' d' v2 d2 hk => ?_⟩
  · obtain ⟨Δ1, e1, hk⟩ := hk
    obtain ⟨yG, e2⟩ := map_one e1
    subst e2
    ·
      obtain ⟨r, st, _⟩ := lendO (Δ1 := [x]) (N := []) (Δ1' := [⟨yG, x.v, d', some 0⟩]) (Δ1o := [⟨yG, x.v, d', x.prm⟩]) k1 hk rfl (fun i c h => by
        match i, h with
        | 0, h => cases h; rfl
        | _ + 1, h => cases h) (fun _ h => nomatch h) rfl (fun i c c' e h1 h2 h3 => by
        match i, h1, h2, h3 with
        | 0, h1, h2, h3 => cases h1; cases h2; cases h3; rfl
        | _ + 1, h1, _, _ => cases h1)
      refine ⟨⟨⟨A ++ ⟨yG, x.v, d', x.prm⟩ :: B, ?_, HkO.perm (Δ := ⟨yG, x.v, d', x.prm⟩ :: (A ++ B)) r mid_perm.symm⟩, n.mono st.fz⟩, st⟩
      rw [← el]
      exact map_set
  · obtain ⟨Δ1, e1, hk⟩ := hk
    obtain ⟨zG, yG, e2⟩ := map_two e1
    subst e2
    ·
      obtain ⟨r, st, nw⟩ := lendO (Δ1 := [x]) (N := [⟨zG, v2, d2, none⟩]) (Δ1' := [⟨yG, x.v, d', some 0⟩]) (Δ1o := [⟨yG, x.v, d', x.prm⟩]) k1 hk rfl (fun i c h => by
        match i, h with
        | 0, h => cases h; rfl
        | _ + 1, h => cases h) (fun c h => by rw [List.mem_singleton.mp h]) rfl (fun i c c' e h1 h2 h3 => by
        match i, h1, h2, h3 with
        | 0, h1, h2, h3 => cases h1; cases h2; cases h3; rfl
        | _ + 1, h1, _, _ => cases h1)
      refine ⟨⟨A ++ ⟨yG, x.v, d', x.prm⟩ :: B, zG, ?_, HkO.perm (Δ := ⟨zG, v2, d2, none⟩ :: ⟨yG, x.v, d', x.prm⟩ :: (A ++ B)) r (List.Perm.cons _ mid_perm.symm), (fun h => nomatch h), n.mono st.fz⟩, st⟩
      rw [← el]
      exact map_set
end
end L3
end
section
set_option Elab.async false
set_option linter.all false
set_option maxRecDepth 100000
set_option maxHeartbeats 4000000
namespace L3
open PySem PySem.Spec PyProof.Rows L2
def Sp_FFF_f {α1 α2 α3 ρ : Type} (E1 : α1 → Pd) (E2 : α2 → Pd) (E3 : α3 → Pd) (Mf : α1 → α2 → α3 → Option (ρ)) (Rp : ρ → Pd) : Sp := fun vs H Q _ => ∃ (v1 v2 v3 : V)  (a1 : α1) (a2 : α2) (a3 : α3), vs = [v1, v2, v3] ∧ (E1 a1).pr H v1 ∧ (E2 a2).pr H v2 ∧ (E3 a3).pr H v3 ∧ ∃ r, Mf a1 a2 a3 = some r ∧ RF ⟨H, []⟩ (fun _ => []) (Rp) r Q
theorem fn_FFF_f {P : Program} {w : World} {K : PySem.W.Frag} {mg : Str → Option Value} {base : Heap} {x qual : Str} {params : Arguments} {body : List Stmt} {scope : Scope} {dvs : List V} {kws : List (Str × V)} {f : Addr} {fd : FuncData} {N ps : List Str} {k : Nat} {α1 α2 α3 ρ : Type} {E1 : α1 → Pd} {E2 : α2 → Pd} {E3 : α3 → Pd} {Mf : α1 → α2 → α3 → Option (ρ)} {Rp : ρ → Pd}
    (FD : FunD K x qual params body scope dvs kws f fd) (S : FnScope N ps scope) (hl : 3 = ps.length)
    (hb : ∀ (cdv : Value) (A : Around) (outer : List Env) (s : Shared) (H : Hp) (E : XK) (hr : Room k (A.deeper (envOfC qual scope s.heap.objs.size f cdv)))  (a1 : α1) (a2 : α2) (a3 : α3), PSs (cxOf CX0 P w K mg base N qual scope f cdv A outer s H E).nox body
      (tS ⟨H, []⟩ (([E1 a1, E2 a2, E3 a3] : List Pd).map some ++ List.replicate (N.length - 3) none) [] (fF (RF ⟨H, []⟩ (fun _ => []) (Rp))) (Mf a1 a2 a3))) : FnOk P w K mg base CX0 (k + 1) f fd ps (Sp_FFF_f E1 E2 E3 Mf Rp) := by
  refine FD.ok S (fun vs H Q E h => ?_) (fun cdv A outer s H vs Q E hr h => ?_)
  · obtain ⟨v1, v2, v3, a1, a2, a3, rfl, _⟩ := h
    exact hl
  · obtain ⟨v1, v2, v3, a1, a2, a3, rfl, p1, p2, p3, r, hM, fin⟩ := h
    refine ⟨_, PSs.nox (hb cdv A outer s H E hr  a1 a2 a3), ok_start (Δ := []) rfl (.cons p1 (.cons p2 (.cons p3 (.nil)))) ?_ ?_ ?_, r, hM, fin⟩
    · exact fun _ h => nomatch h
    · exact List.nodup_nil
    · exact fun _ _ h => nomatch h
theorem x_FFF_f {X : Cx} {W : Bool} {F : Fm} {Γ : Gm} {Δ : Δs} {γ : Type} {x : Str} {p pos : Pos} {e1 e2 e3 : Expr} {f : Addr} {fd : FuncData} {ps : List Str} {kk : Nat} {α1 α2 α3 ρ β1 β2 β3 : Type} {E1 : α1 → Pd} {E2 : α2 → Pd} {E3 : α3 → Pd} {Mf : α1 → α2 → α3 → Option (ρ)} {Rp : ρ → Pd} {T : Option γ} {Δ1 : β1 → Δs} {x1 : β1 → α1} {k1 : β1 → Option γ} {Δ2 : β1 → β2 → Δs} {x2 : β1 → β2 → α2} {k2 : β1 → β2 → Option γ} {Δ3 : β1 → β2 → β3 → Δs} {x3 : β1 → β2 → β3 → α3} {k : (β1 × β2 × β3) × (ρ) → Option γ}
    (G : FnOk X.prog X.w X.K X.mg X.base CX0 kk f fd ps (Sp_FFF_f E1 E2 E3 Mf Rp)) (hr : Room kk X.A) (hm : X.mg x = some (.ref f)) (hk : PySem.W.keepIn X.K (.ref f) = true) (hb : Binds X.K fd ps []) (h1 : PE X e1 (tE W F Γ Δ T (k1) (fun b1 => E1 (x1 b1)) (Δ1))) (h2 : ∀ b1, PE X e2 (tE W F Γ (Δ1 b1) (k1 b1) (k2 b1) (fun b2 => E2 (x2 b1 b2)) (Δ2 b1))) (h3 : ∀ b1 b2, PE X e3 (tE W F Γ (Δ2 b1 b2) (k2 b1 b2) (fun b3 => (Mf (x1 b1) (x2 b1 b2) (x3 b1 b2 b3)).bind fun r => k ((b1, b2, b3), r)) (fun b3 => E3 (x3 b1 b2 b3)) (Δ3 b1 b2)))
     (hg : Gl X x := by rfl) (hdb : (x == ("__debug__" : Str)) = false := by decide) (st1 : starEach [e1, e2, e3] X.env = (false, eval e1 X.env) :: starEach [e2, e3] X.env := by rfl) (st2 : starEach [e2, e3] X.env = (false, eval e2 X.env) :: starEach [e3] X.env := by rfl) (st3 : starEach [e3] X.env = (false, eval e3 X.env) :: starEach [] X.env := by rfl) (hpl : (backTo pos (starEach [e2, e3] X.env)).any (·.1) = false := by rfl) :
    PE X (.Call (.Name x p) [e1, e2, e3] [] pos) (tE W F Γ Δ T k (fun b => Rp b.2) fun b => Δ3 b.1.1 b.1.2.1 b.1.2.2) :=
  (pe_call G hr hg hm hk hb .nil pass0 (pa_cons h1 (pa_cons (pe_ex fun b1 => h2 b1) (pa_cons (pe_ex fun b1 => pe_ex fun b2 => h3 b1 b2) pa_nil st3) st2) st1) hdb st1 hpl).wk fun σ H Q ⟨ok, g, e, q⟩ => ⟨ok, g, e, fun b1 v1 H1 kb1 f1 ok1 hv1 => ⟨b1, ok1, g, kb1, fun b2 v2 H2 kb2 f2 ok2 hv2 => ⟨b1, b2, ok2, g, kb2, fun b3 v3 H3 kb3 f3 ok3 hv3 => by
    obtain ⟨r, er, kr⟩ := bind_some kb3
    refine ⟨v1, v2, v3, x1 b1, x2 b1 b2, x3 b1 b2 b3, rfl, ((E1 _).mono (f2.fz.trans f3.fz) hv1), ((E2 _).mono f3.fz hv2), hv3, r, er, fun v H' hk hv => ?_⟩
    obtain ⟨ok', st⟩ := call_f0 (W := W) ok3 hk
    exact q ((b1, b2, b3), r) v H' kr (((f1.trans f2).trans f3).trans st) ok' hv⟩⟩⟩
def Sp_FFF_o {α1 α2 α3 ρ : Type} (E1 : α1 → Pd) (E2 : α2 → Pd) (E3 : α3 → Pd) (Mf : α1 → α2 → α3 → Option (ρ)) (Rp : ρ → Od) : Sp := fun vs H Q _ => ∃ (v1 v2 v3 : V)  (a1 : α1) (a2 : α2) (a3 : α3), vs = [v1, v2, v3] ∧ (E1 a1).pr H v1 ∧ (E2 a2).pr H v2 ∧ (E3 a3).pr H v3 ∧ ∃ r, Mf a1 a2 a3 = some r ∧ RO ⟨H, []⟩ (fun _ => []) (Rp) r Q
theorem fn_FFF_o {P : Program} {w : World} {K : PySem.W.Frag} {mg : Str → Option Value} {base : Heap} {x qual : Str} {params : Arguments} {body : List Stmt} {scope : Scope} {dvs : List V} {kws : List (Str × V)} {f : Addr} {fd : FuncData} {N ps : List Str} {k : Nat} {α1 α2 α3 ρ : Type} {E1 : α1 → Pd} {E2 : α2 → Pd} {E3 : α3 → Pd} {Mf : α1 → α2 → α3 → Option (ρ)} {Rp : ρ → Od}
    (FD : FunD K x qual params body scope dvs kws f fd) (S : FnScope N ps scope) (hl : 3 = ps.length)
    (hb : ∀ (cdv : Value) (A : Around) (outer : List Env) (s : Shared) (H : Hp) (E : XK) (hr : Room k (A.deeper (envOfC qual scope s.heap.objs.size f cdv)))  (a1 : α1) (a2 : α2) (a3 : α3), PSs (cxOf CX0 P w K mg base N qual scope f cdv A outer s H E).nox body
      (tS ⟨H, []⟩ (([E1 a1, E2 a2, E3 a3] : List Pd).map some ++ List.replicate (N.length - 3) none) [] (fF (RO ⟨H, []⟩ (fun _ => []) (Rp))) (Mf a1 a2 a3))) : FnOk P w K mg base CX0 (k + 1) f fd ps (Sp_FFF_o E1 E2 E3 Mf Rp) := by
  refine FD.ok S (fun vs H Q E h => ?_) (fun cdv A outer s H vs Q E hr h => ?_)
  · obtain ⟨v1, v2, v3, a1, a2, a3, rfl, _⟩ := h
    exact hl
  · obtain ⟨v1, v2, v3, a1, a2, a3, rfl, p1, p2, p3, r, hM, fin⟩ := h
    refine ⟨_, PSs.nox (hb cdv A outer s H E hr  a1 a2 a3), ok_start (Δ := []) rfl (.cons p1 (.cons p2 (.cons p3 (.nil)))) ?_ ?_ ?_, r, hM, fin⟩
    · exact fun _ h => nomatch h
    · exact List.nodup_nil
    · exact fun _ _ h => nomatch h
theorem x_FFF_o {X : Cx} {W : Bool} {F : Fm} {Γ : Gm} {Δ : Δs} {γ : Type} {x : Str} {p pos : Pos} {e1 e2 e3 : Expr} {f : Addr} {fd : FuncData} {ps : List Str} {kk : Nat} {α1 α2 α3 ρ β1 β2 β3 : Type} {E1 : α1 → Pd} {E2 : α2 → Pd} {E3 : α3 → Pd} {Mf : α1 → α2 → α3 → Option (ρ)} {Rp : ρ → Od} {T : Option γ} {Δ1 : β1 → Δs} {x1 : β1 → α1} {k1 : β1 → Option γ} {Δ2 : β1 → β2 → Δs} {x2 : β1 → β2 → α2} {k2 : β1 → β2 → Option γ} {Δ3 : β1 → β2 → β3 → Δs} {x3 : β1 → β2 → β3 → α3} {k : (β1 × β2 × β3) × (ρ) → Option γ}
    (G : FnOk X.prog X.w X.K X.mg X.base CX0 kk f fd ps (Sp_FFF_o E1 E2 E3 Mf Rp)) (hr : Room kk X.A) (hm : X.mg x = some (.ref f)) (hk : PySem.W.keepIn X.K (.ref f) = true) (hb : Binds X.K fd ps []) (h1 : PE X e1 (tE W F Γ Δ T (k1) (fun b1 => E1 (x1 b1)) (Δ1))) (h2 : ∀ b1, PE X e2 (tE W F Γ (Δ1 b1) (k1 b1) (k2 b1) (fun b2 => E2 (x2 b1 b2)) (Δ2 b1))) (h3 : ∀ b1 b2, PE X e3 (tE W F Γ (Δ2 b1 b2) (k2 b1 b2) (fun b3 => (Mf (x1 b1) (x2 b1 b2) (x3 b1 b2 b3)).bind fun r => k ((b1, b2, b3), r)) (fun b3 => E3 (x3 b1 b2 b3)) (Δ3 b1 b2)))
     (hg : Gl X x := by rfl) (hdb : (x == ("__debug__" : Str)) = false := by decide) (st1 : starEach [e1, e2, e3] X.env = (false, eval e1 X.env) :: starEach [e2, e3] X.env := by rfl) (st2 : starEach [e2, e3] X.env = (false, eval e2 X.env) :: starEach [e3] X.env := by rfl) (st3 : starEach [e3] X.env = (false, eval e3 X.env) :: starEach [] X.env := by rfl) (hpl : (backTo pos (starEach [e2, e3] X.env)).any (·.1) = false := by rfl) :
    PE X (.Call (.Name x p) [e1, e2, e3] [] pos) (tO W F Γ Δ T k (fun b => Rp b.2) fun b => Δ3 b.1.1 b.1.2.1 b.1.2.2) :=
  (pe_call G hr hg hm hk hb .nil pass0 (pa_cons h1 (pa_cons (pe_ex fun b1 => h2 b1) (pa_cons (pe_ex fun b1 => pe_ex fun b2 => h3 b1 b2) pa_nil st3) st2) st1) hdb st1 hpl).wk fun σ H Q ⟨ok, g, e, q⟩ => ⟨ok, g, e, fun b1 v1 H1 kb1 f1 ok1 hv1 => ⟨b1, ok1, g, kb1, fun b2 v2 H2 kb2 f2 ok2 hv2 => ⟨b1, b2, ok2, g, kb2, fun b3 v3 H3 kb3 f3 ok3 hv3 => by
    obtain ⟨r, er, kr⟩ := bind_some kb3
    refine ⟨v1, v2, v3, x1 b1, x2 b1 b2, x3 b1 b2 b3, rfl, ((E1 _).mono (f2.fz.trans f3.fz) hv1), ((E2 _).mono f3.fz hv2), hv3, r, er, fun v H' hk => ?_⟩
    obtain ⟨ok', st⟩ := call_o0 (W := W) ok3 hk
    exact q ((b1, b2, b3), r) v H' kr (((f1.trans f2).trans f3).trans st) (ok'.since ((f1.trans f2).trans f3))⟩⟩⟩
def Sp_FF_f {α1 α2 ρ : Type} (E1 : α1 → Pd) (E2 : α2 → Pd) (Mf : α1 → α2 → Option (ρ)) (Rp : ρ → Pd) : Sp := fun vs H Q _ => ∃ (v1 v2 : V)  (a1 : α1) (a2 : α2), vs = [v1, v2] ∧ (E1 a1).pr H v1 ∧ (E2 a2).pr H v2 ∧ ∃ r, Mf a1 a2 = some r ∧ RF ⟨H, []⟩ (fun _ => []) (Rp) r Q
theorem fn_FF_f {P : Program} {w : World} {K : PySem.W.Frag} {mg : Str → Option Value} {base : Heap} {x qual : Str} {params : Arguments} {body : List Stmt} {scope : Scope} {dvs : List V} {kws : List (Str × V)} {f : Addr} {fd : FuncData} {N ps : List Str} {k : Nat} {α1 α2 ρ : Type} {E1 : α1 → Pd} {E2 : α2 → Pd} {Mf : α1 → α2 → Option (ρ)} {Rp : ρ → Pd}
    (FD : FunD K x qual params body scope dvs kws f fd) (S : FnScope N ps scope) (hl : 2 = ps.length)
    (hb : ∀ (cdv : Value) (A : Around) (outer : List Env) (s : Shared) (H : Hp) (E : XK) (hr : Room k (A.deeper (envOfC qual scope s.heap.objs.size f cdv)))  (a1 : α1) (a2 : α2), PSs (cxOf CX0 P w K mg base N qual scope f cdv A outer s H E).nox body
      (tS ⟨H, []⟩ (([E1 a1, E2 a2] : List Pd).map some ++ List.replicate (N.length - 2) none) [] (fF (RF ⟨H, []⟩ (fun _ => []) (Rp))) (Mf a1 a2))) : FnOk P w K mg base CX0 (k + 1) f fd ps (Sp_FF_f E1 E2 Mf Rp) := by
  refine FD.ok S (fun vs H Q E h => ?_) (fun cdv A outer s H vs Q E hr h => ?_)
  · obtain ⟨v1, v2, a1, a2, rfl, _⟩ := h
    exact hl
  · obtain ⟨v1, v2, a1, a2, rfl, p1, p2, r, hM, fin⟩ := h
    refine ⟨_, PSs.nox (hb cdv A outer s H E hr  a1 a2), ok_start (Δ := []) rfl (.cons p1 (.cons p2 (.nil))) ?_ ?_ ?_, r, hM, fin⟩
    · exact fun _ h => nomatch h
    · exact List.nodup_nil
    · exact fun _ _ h => nomatch h
theorem x_FF_f {X : Cx} {W : Bool} {F : Fm} {Γ : Gm} {Δ : Δs} {γ : Type} {x : Str} {p pos : Pos} {e1 e2 : Expr} {f : Addr} {fd : FuncData} {ps : List Str} {kk : Nat} {α1 α2 ρ β1 β2 : Type} {E1 : α1 → Pd} {E2 : α2 → Pd} {Mf : α1 → α2 → Option (ρ)} {Rp : ρ → Pd} {T : Option γ} {Δ1 : β1 → Δs} {x1 : β1 → α1} {k1 : β1 → Option γ} {Δ2 : β1 → β2 → Δs} {x2 : β1 → β2 → α2} {k : (β1 × β2) × (ρ) → Option γ}
    (G : FnOk X.prog X.w X.K X.mg X.base CX0 kk f fd ps (Sp_FF_f E1 E2 Mf Rp)) (hr : Room kk X.A) (hm : X.mg x = some (.ref f)) (hk : PySem.W.keepIn X.K (.ref f) = true) (hb : Binds X.K fd ps []) (h1 : PE X e1 (tE W F Γ Δ T (k1) (fun b1 => E1 (x1 b1)) (Δ1))) (h2 : ∀ b1, PE X e2 (tE W F Γ (Δ1 b1) (k1 b1) (fun b2 => (Mf (x1 b1) (x2 b1 b2)).bind fun r => k ((b1, b2), r)) (fun b2 => E2 (x2 b1 b2)) (Δ2 b1)))
     (hg : Gl X x := by rfl) (hdb : (x == ("__debug__" : Str)) = false := by decide) (st1 : starEach [e1, e2] X.env = (false, eval e1 X.env) :: starEach [e2] X.env := by rfl) (st2 : starEach [e2] X.env = (false, eval e2 X.env) :: starEach [] X.env := by rfl) (hpl : (backTo pos (starEach [e2] X.env)).any (·.1) = false := by rfl) :
    PE X (.Call (.Name x p) [e1, e2] [] pos) (tE W F Γ Δ T k (fun b => Rp b.2) fun b => Δ2 b.1.1 b.1.2) :=
  (pe_call G hr hg hm hk hb .nil pass0 (pa_cons h1 (pa_cons (pe_ex fun b1 => h2 b1) pa_nil st2) st1) hdb st1 hpl).wk fun σ H Q ⟨ok, g, e, q⟩ => ⟨ok, g, e, fun b1 v1 H1 kb1 f1 ok1 hv1 => ⟨b1, ok1, g, kb1, fun b2 v2 H2 kb2 f2 ok2 hv2 => by
    obtain ⟨r, er, kr⟩ := bind_some kb2
    refine ⟨v1, v2, x1 b1, x2 b1 b2, rfl, ((E1 _).mono f2.fz hv1), hv2, r, er, fun v H' hk hv => ?_⟩
    obtain ⟨ok', st⟩ := call_f0 (W := W) ok2 hk
    exact q ((b1, b2), r) v H' kr ((f1.trans f2).trans st) ok' hv⟩⟩
def Sp_FF_o {α1 α2 ρ : Type} (E1 : α1 → Pd) (E2 : α2 → Pd) (Mf : α1 → α2 → Option (ρ)) (Rp : ρ → Od) : Sp := fun vs H Q _ => ∃ (v1 v2 : V)  (a1 : α1) (a2 : α2), vs = [v1, v2] ∧ (E1 a1).pr H v1 ∧ (E2 a2).pr H v2 ∧ ∃ r, Mf a1 a2 = some r ∧ RO ⟨H, []⟩ (fun _ => []) (Rp) r Q
theorem fn_FF_o {P : Program} {w : World} {K : PySem.W.Frag} {mg : Str → Option Value} {base : Heap} {x qual : Str} {params : Arguments} {body : List Stmt} {scope : Scope} {dvs : List V} {kws : List (Str × V)} {f : Addr} {fd : FuncData} {N ps : List Str} {k : Nat} {α1 α2 ρ : Type} {E1 : α1 → Pd} {E2 : α2 → Pd} {Mf : α1 → α2 → Option (ρ)} {Rp : ρ → Od}
    (FD : FunD K x qual params body scope dvs kws f fd) (S : FnScope N ps scope) (hl : 2 = ps.length)
    (hb : ∀ (cdv : Value) (A : Around) (outer : List Env) (s : Shared) (H : Hp) (E : XK) (hr : Room k (A.deeper (envOfC qual scope s.heap.objs.size f cdv)))  (a1 : α1) (a2 : α2), PSs (cxOf CX0 P w K mg base N qual scope f cdv A outer s H E).nox body
      (tS ⟨H, []⟩ (([E1 a1, E2 a2] : List Pd).map some ++ List.replicate (N.length - 2) none) [] (fF (RO ⟨H, []⟩ (fun _ => []) (Rp))) (Mf a1 a2))) : FnOk P w K mg base CX0 (k + 1) f fd ps (Sp_FF_o E1 E2 Mf Rp) := by
  refine FD.ok S (fun vs H Q E h => ?_) (fun cdv A outer s H vs Q E hr h => ?_)
  · obtain ⟨v1, v2, a1, a2, rfl, _⟩ := h
    exact hl
  · obtain ⟨v1, v2, a1, a2, rfl, p1, p2, r, hM, fin⟩ := h
    refine ⟨_, PSs.nox (hb cdv A outer s H E hr  a1 a2), ok_start (Δ := []) rfl (.cons p1 (.cons p2 (.nil))) ?_ ?_ ?_, r, hM, fin⟩
    · exact fun _ h => nomatch h
    · exact List.nodup_nil
    · exact fun _ _ h => nomatch h
theorem x_FF_o {X : Cx} {W : Bool} {F : Fm} {Γ : Gm} {Δ : Δs} {γ : Type} {x : Str} {p pos : Pos} {e1 e2 : Expr} {f : Addr} {fd : FuncData} {ps : List Str} {kk : Nat} {α1 α2 ρ β1 β2 : Type} {E1 : α1 → Pd} {E2 : α2 → Pd} {Mf : α1 → α2 → Option (ρ)} {Rp : ρ → Od} {T : Option γ} {Δ1 : β1 → Δs} {x1 : β1 → α1} {k1 : β1 → Option γ} {Δ2 : β1 → β2 → Δs} {x2 : β1 → β2 → α2} {k : (β1 × β2) × (ρ) → Option γ}
    (G : FnOk X.prog X.w X.K X.mg X.base CX0 kk f fd ps (Sp_FF_o E1 E2 Mf Rp)) (hr : Room kk X.A) (hm : X.mg x = some (.ref f)) (hk : PySem.W.keepIn X.K (.ref f) = true) (hb : Binds X.K fd ps []) (h1 : PE X e1 (tE W F Γ Δ T (k1) (fun b1 => E1 (x1 b1)) (Δ1))) (h2 : ∀ b1, PE X e2 (tE W F Γ (Δ1 b1) (k1 b1) (fun b2 => (Mf (x1 b1) (x2 b1 b2)).bind fun r => k ((b1, b2), r)) (fun b2 => E2 (x2 b1 b2)) (Δ2 b1)))
     (hg : Gl X x := by rfl) (hdb : (x == ("__debug__" : Str)) = false := by decide) (st1 : starEach [e1, e2] X.env = (false, eval e1 X.env) :: starEach [e2] X.env := by rfl) (st2 : starEach [e2] X.env = (false, eval e2 X.env) :: starEach [] X.env := by rfl) (hpl : (backTo pos (starEach [e2] X.env)).any (·.1) = false := by rfl) :
    PE X (.Call (.Name x p) [e1, e2] [] pos) (tO W F Γ Δ T k (fun b => Rp b.2) fun b => Δ2 b.1.1 b.1.2) :=
  (pe_call G hr hg hm hk hb .nil pass0 (pa_cons h1 (pa_cons (pe_ex fun b1 => h2 b1) pa_nil st2) st1) hdb st1 hpl).wk fun σ H Q ⟨ok, g, e, q⟩ => ⟨ok, g, e, fun b1 v1 H1 kb1 f1 ok1 hv1 => ⟨b1, ok1, g, kb1, fun b2 v2 H2 kb2 f2 ok2 hv2 => by
    obtain ⟨r, er, kr⟩ := bind_some kb2
    refine ⟨v1, v2, x1 b1, x2 b1 b2, rfl, ((E1 _).mono f2.fz hv1), hv2, r, er, fun v H' hk => ?_⟩
    obtain ⟨ok', st⟩ := call_o0 (W := W) ok2 hk
    exact q ((b1, b2), r) v H' kr ((f1.trans f2).trans st) (ok'.since (f1.trans f2))⟩⟩
def Sp_F_f {α1 ρ : Type} (E1 : α1 → Pd) (Mf : α1 → Option (ρ)) (Rp : ρ → Pd) : Sp := fun vs H Q _ => ∃ (v1 : V)  (a1 : α1), vs = [v1] ∧ (E1 a1).pr H v1 ∧ ∃ r, Mf a1 = some r ∧ RF ⟨H, []⟩ (fun _ => []) (Rp) r Q
theorem fn_F_f {P : Program} {w : World} {K : PySem.W.Frag} {mg : Str → Option Value} {base : Heap} {x qual : Str} {params : Arguments} {body : List Stmt} {scope : Scope} {dvs : List V} {kws : List (Str × V)} {f : Addr} {fd : FuncData} {N ps : List Str} {k : Nat} {α1 ρ : Type} {E1 : α1 → Pd} {Mf : α1 → Option (ρ)} {Rp : ρ → Pd}
    (FD : FunD K x qual params body scope dvs kws f fd) (S : FnScope N ps scope) (hl : 1 = ps.length)
    (hb : ∀ (cdv : Value) (A : Around) (outer : List Env) (s : Shared) (H : Hp) (E : XK) (hr : Room k (A.deeper (envOfC qual scope s.heap.objs.size f cdv)))  (a1 : α1), PSs (cxOf CX0 P w K mg base N qual scope f cdv A outer s H E).nox body
      (tS ⟨H, []⟩ (([E1 a1] : List Pd).map some ++ List.replicate (N.length - 1) none) [] (fF (RF ⟨H, []⟩ (fun _ => []) (Rp))) (Mf a1))) : FnOk P w K mg base CX0 (k + 1) f fd ps (Sp_F_f E1 Mf Rp) := by
  refine FD.ok S (fun vs H Q E h => ?_) (fun cdv A outer s H vs Q E hr h => ?_)
  · obtain ⟨v1, a1, rfl, _⟩ := h
    exact hl
  · obtain ⟨v1, a1, rfl, p1, r, hM, fin⟩ := h
    refine ⟨_, PSs.nox (hb cdv A outer s H E hr  a1), ok_start (Δ := []) rfl (.cons p1 (.nil)) ?_ ?_ ?_, r, hM, fin⟩
    · exact fun _ h => nomatch h
    · exact List.nodup_nil
    · exact fun _ _ h => nomatch h
theorem x_F_f {X : Cx} {W : Bool} {F : Fm} {Γ : Gm} {Δ : Δs} {γ : Type} {x : Str} {p pos : Pos} {e1 : Expr} {f : Addr} {fd : FuncData} {ps : List Str} {kk : Nat} {α1 ρ β1 : Type} {E1 : α1 → Pd} {Mf : α1 → Option (ρ)} {Rp : ρ → Pd} {T : Option γ} {Δ1 : β1 → Δs} {x1 : β1 → α1} {k : (β1) × (ρ) → Option γ}
    (G : FnOk X.prog X.w X.K X.mg X.base CX0 kk f fd ps (Sp_F_f E1 Mf Rp)) (hr : Room kk X.A) (hm : X.mg x = some (.ref f)) (hk : PySem.W.keepIn X.K (.ref f) = true) (hb : Binds X.K fd ps []) (h1 : PE X e1 (tE W F Γ Δ T (fun b1 => (Mf (x1 b1)).bind fun r => k (b1, r)) (fun b1 => E1 (x1 b1)) (Δ1)))
     (hg : Gl X x := by rfl) (hdb : (x == ("__debug__" : Str)) = false := by decide) (st1 : starEach [e1] X.env = (false, eval e1 X.env) :: starEach [] X.env := by rfl) (hpl : (backTo pos (starEach [] X.env)).any (·.1) = false := by rfl) :
    PE X (.Call (.Name x p) [e1] [] pos) (tE W F Γ Δ T k (fun b => Rp b.2) fun b => Δ1 b.1) :=
  (pe_call G hr hg hm hk hb .nil pass0 (pa_cons h1 pa_nil st1) hdb st1 hpl).wk fun σ H Q ⟨ok, g, e, q⟩ => ⟨ok, g, e, fun b1 v1 H1 kb1 f1 ok1 hv1 => by
    obtain ⟨r, er, kr⟩ := bind_some kb1
    refine ⟨v1, x1 b1, rfl, hv1, r, er, fun v H' hk hv => ?_⟩
    obtain ⟨ok', st⟩ := call_f0 (W := W) ok1 hk
    exact q (b1, r) v H' kr (f1.trans st) ok' hv⟩
def Sp_F_o {α1 ρ : Type} (E1 : α1 → Pd) (Mf : α1 → Option (ρ)) (Rp : ρ → Od) : Sp := fun vs H Q _ => ∃ (v1 : V)  (a1 : α1), vs = [v1] ∧ (E1 a1).pr H v1 ∧ ∃ r, Mf a1 = some r ∧ RO ⟨H, []⟩ (fun _ => []) (Rp) r Q
theorem fn_F_o {P : Program} {w : World} {K : PySem.W.Frag} {mg : Str → Option Value} {base : Heap} {x qual : Str} {params : Arguments} {body : List Stmt} {scope : Scope} {dvs : List V} {kws : List (Str × V)} {f : Addr} {fd : FuncData} {N ps : List Str} {k : Nat} {α1 ρ : Type} {E1 : α1 → Pd} {Mf : α1 → Option (ρ)} {Rp : ρ → Od}
    (FD : FunD K x qual params body scope dvs kws f fd) (S : FnScope N ps scope) (hl : 1 = ps.length)
    (hb : ∀ (cdv : Value) (A : Around) (outer : List Env) (s : Shared) (H : Hp) (E : XK) (hr : Room k (A.deeper (envOfC qual scope s.heap.objs.size f cdv)))  (a1 : α1), PSs (cxOf CX0 P w K mg base N qual scope f cdv A outer s H E).nox body
      (tS ⟨H, []⟩ (([E1 a1] : List Pd).map some ++ List.replicate (N.length - 1) none) [] (fF (RO ⟨H, []⟩ (fun _ => []) (Rp))) (Mf a1))) : FnOk P w K mg base CX0 (k + 1) f fd ps (Sp_F_o E1 Mf Rp) := by
  refine FD.ok S (fun vs H Q E h => ?_) (fun cdv A outer s H vs Q E hr h => ?_)
  · obtain ⟨v1, a1, rfl, _⟩ := h
    exact hl
  · obtain ⟨v1, a1, rfl, p1, r, hM, fin⟩ := h
    refine ⟨_, PSs.nox (hb cdv A outer s H E hr  a1), ok_start (Δ := []) rfl (.cons p1 (.nil)) ?_ ?_ ?_, r, hM, fin⟩
    · exact fun _ h => nomatch h
    · exact List.nodup_nil
    · exact fun _ _ h => nomatch h
theorem x_F_o {X : Cx} {W : Bool} {F : Fm} {Γ : Gm} {Δ : Δs} {γ : Type} {x : Str} {p pos : Pos} {e1 : Expr} {f : Addr} {fd : FuncData} {ps : List Str} {kk : Nat} {α1 ρ β1 : Type} {E1 : α1 → Pd} {Mf : α1 → Option (ρ)} {Rp : ρ → Od} {T : Option γ} {Δ1 : β1 → Δs} {x1 : β1 → α1} {k : (β1) × (ρ) → Option γ}
    (G : FnOk X.prog X.w X.K X.mg X.base CX0 kk f fd ps (Sp_F_o E1 Mf Rp)) (hr : Room kk X.A) (hm : X.mg x = some (.ref f)) (hk : PySem.W.keepIn X.K (.ref f) = true) (hb : Binds X.K fd ps []) (h1 : PE X e1 (tE W F Γ Δ T (fun b1 => (Mf (x1 b1)).bind fun r => k (b1, r)) (fun b1 => E1 (x1 b1)) (Δ1)))
     (hg : Gl X x := by rfl) (hdb : (x == ("__debug__" : Str)) = false := by decide) (st1 : starEach [e1] X.env = (false, eval e1 X.env) :: starEach [] X.env := by rfl) (hpl : (backTo pos (starEach [] X.env)).any (·.1) = false := by rfl) :
    PE X (.Call (.Name x p) [e1] [] pos) (tO W F Γ Δ T k (fun b => Rp b.2) fun b => Δ1 b.1) :=
  (pe_call G hr hg hm hk hb .nil pass0 (pa_cons h1 pa_nil st1) hdb st1 hpl).wk fun σ H Q ⟨ok, g, e, q⟩ => ⟨ok, g, e, fun b1 v1 H1 kb1 f1 ok1 hv1 => by
    obtain ⟨r, er, kr⟩ := bind_some kb1
    refine ⟨v1, x1 b1, rfl, hv1, r, er, fun v H' hk => ?_⟩
    obtain ⟨ok', st⟩ := call_o0 (W := W) ok1 hk
    exact q (b1, r) v H' kr (f1.trans st) (ok'.since f1)⟩
def Sp_OFFF_o {α1 α2 α3 α4 ρ : Type} (E1 : α1 → Od) (E2 : α2 → Pd) (E3 : α3 → Pd) (E4 : α4 → Pd) (Mf : α1 → α2 → α3 → α4 → Option (ρ × α1)) (Rp : ρ → Od) : Sp := fun vs H Q _ => ∃ (v1 v2 v3 v4 : V) (G1 : List Addr) (a1 : α1) (a2 : α2) (a3 : α3) (a4 : α4), vs = [v1, v2, v3, v4] ∧ (E1 a1).pr G1 H v1 ∧ G1.Nodup ∧ (E2 a2).pr H v2 ∧ (E3 a3).pr H v3 ∧ (E4 a4).pr H v4 ∧ ∃ r, Mf a1 a2 a3 a4 = some r ∧ RO ⟨H, [G1]⟩ (fun r => [⟨v1, E1 r.2, some 0⟩]) (fun r => Rp r.1) r Q
theorem fn_OFFF_o {P : Program} {w : World} {K : PySem.W.Frag} {mg : Str → Option Value} {base : Heap} {x qual : Str} {params : Arguments} {body : List Stmt} {scope : Scope} {dvs : List V} {kws : List (Str × V)} {f : Addr} {fd : FuncData} {N ps : List Str} {k : Nat} {α1 α2 α3 α4 ρ : Type} {E1 : α1 → Od} {E2 : α2 → Pd} {E3 : α3 → Pd} {E4 : α4 → Pd} {Mf : α1 → α2 → α3 → α4 → Option (ρ × α1)} {Rp : ρ → Od}
    (FD : FunD K x qual params body scope dvs kws f fd) (S : FnScope N ps scope) (hl : 4 = ps.length)
    (hb : ∀ (cdv : Value) (A : Around) (outer : List Env) (s : Shared) (H : Hp) (E : XK) (hr : Room k (A.deeper (envOfC qual scope s.heap.objs.size f cdv))) (v1 : V) (G1 : List Addr) (a1 : α1) (a2 : α2) (a3 : α3) (a4 : α4), PSs (cxOf CX0 P w K mg base N qual scope f cdv A outer s H E).nox body
      (tS ⟨H, [G1]⟩ (([pV v1, E2 a2, E3 a3, E4 a4] : List Pd).map some ++ List.replicate (N.length - 4) none) [⟨v1, E1 a1, some 0⟩] (fF (RO ⟨H, [G1]⟩ (fun r => [⟨v1, E1 r.2, some 0⟩]) (fun r => Rp r.1))) (Mf a1 a2 a3 a4))) : FnOk P w K mg base CX0 (k + 1) f fd ps (Sp_OFFF_o E1 E2 E3 E4 Mf Rp) := by
  refine FD.ok S (fun vs H Q E h => ?_) (fun cdv A outer s H vs Q E hr h => ?_)
  · obtain ⟨v1, v2, v3, v4, G1, a1, a2, a3, a4, rfl, _⟩ := h
    exact hl
  · obtain ⟨v1, v2, v3, v4, G1, a1, a2, a3, a4, rfl, p1, n1, p2, p3, p4, r, hM, fin⟩ := h
    refine ⟨_, PSs.nox (hb cdv A outer s H E hr v1 G1 a1 a2 a3 a4), ok_start (Δ := [⟨G1, v1, E1 a1, some 0⟩]) rfl (.cons rfl (.cons p2 (.cons p3 (.cons p4 (.nil))))) ?_ ?_ ?_, r, hM, fin⟩
    · intro c hc; rw [List.mem_singleton.mp hc]; exact p1
    · rw [cellsOf_cons]; show (_ ++ []).Nodup; rw [List.append_nil]; exact n1
    · intro i c h; match i, h with | 0, h => cases h; rfl | _ + 1, h => cases h
theorem x_OFFF_o {X : Cx} {F : Fm} {Γ : Gm} {Δ : Δs} {γ : Type} {x : Str} {p pos : Pos} {e1 e2 e3 e4 : Expr} {f : Addr} {fd : FuncData} {ps : List Str} {kk : Nat} {α1 α2 α3 α4 ρ β1 β2 β3 β4 : Type} {E1 : α1 → Od} {E2 : α2 → Pd} {E3 : α3 → Pd} {E4 : α4 → Pd} {Mf : α1 → α2 → α3 → α4 → Option (ρ × α1)} {Rp : ρ → Od} {T : Option γ} {Δ1 : β1 → Δs} {k1 : β1 → Option γ} {Δ2 : β1 → β2 → Δs} {x2 : β1 → β2 → α2} {k2 : β1 → β2 → Option γ} {Δ3 : β1 → β2 → β3 → Δs} {x3 : β1 → β2 → β3 → α3} {k3 : β1 → β2 → β3 → Option γ} {Δ4 : β1 → β2 → β3 → β4 → Δs} {x4 : β1 → β2 → β3 → β4 → α4} {v1 : V} {prm : Option Nat} {s1 : β1 → β2 → β3 → β4 → α1} {k : (β1 × β2 × β3 × β4) × (ρ × α1) → Option γ}
    (G : FnOk X.prog X.w X.K X.mg X.base CX0 kk f fd ps (Sp_OFFF_o E1 E2 E3 E4 Mf Rp)) (hr : Room kk X.A) (hm : X.mg x = some (.ref f)) (hk : PySem.W.keepIn X.K (.ref f) = true) (hb : Binds X.K fd ps []) (j : Nat) (h1 : PE X e1 (tE true F Γ Δ T (k1) (fun b1 => pV v1) (Δ1))) (h2 : ∀ b1, PE X e2 (tE true F Γ (Δ1 b1) (k1 b1) (k2 b1) (fun b2 => E2 (x2 b1 b2)) (Δ2 b1))) (h3 : ∀ b1 b2, PE X e3 (tE true F Γ (Δ2 b1 b2) (k2 b1 b2) (k3 b1 b2) (fun b3 => E3 (x3 b1 b2 b3)) (Δ3 b1 b2))) (h4 : ∀ b1 b2 b3, PE X e4 (tE true F Γ (Δ3 b1 b2 b3) (k3 b1 b2 b3) (fun b4 => (Mf (s1 b1 b2 b3 b4) (x2 b1 b2) (x3 b1 b2 b3) (x4 b1 b2 b3 b4)).bind fun r => k ((b1, b2, b3, b4), r)) (fun b4 => E4 (x4 b1 b2 b3 b4)) (Δ4 b1 b2 b3)))
    (hj : ∀ b1 b2 b3 b4, (Δ4 b1 b2 b3 b4)[j]? = some ⟨v1, E1 (s1 b1 b2 b3 b4), prm⟩) (hg : Gl X x := by rfl) (hdb : (x == ("__debug__" : Str)) = false := by decide) (st1 : starEach [e1, e2, e3, e4] X.env = (false, eval e1 X.env) :: starEach [e2, e3, e4] X.env := by rfl) (st2 : starEach [e2, e3, e4] X.env = (false, eval e2 X.env) :: starEach [e3, e4] X.env := by rfl) (st3 : starEach [e3, e4] X.env = (false, eval e3 X.env) :: starEach [e4] X.env := by rfl) (st4 : starEach [e4] X.env = (false, eval e4 X.env) :: starEach [] X.env := by rfl) (hpl : (backTo pos (starEach [e2, e3, e4] X.env)).any (·.1) = false := by rfl) :
    PE X (.Call (.Name x p) [e1, e2, e3, e4] [] pos) (tO true F Γ Δ T k (fun b => Rp b.2.1) fun b => (Δ4 b.1.1 b.1.2.1 b.1.2.2.1 b.1.2.2.2).set j ⟨v1, E1 b.2.2, prm⟩) :=
  (pe_call G hr hg hm hk hb .nil pass0 (pa_cons h1 (pa_cons (pe_ex fun b1 => h2 b1) (pa_cons (pe_ex fun b1 => pe_ex fun b2 => h3 b1 b2) (pa_cons (pe_ex fun b1 => pe_ex fun b2 => pe_ex fun b3 => h4 b1 b2 b3) pa_nil st4) st3) st2) st1) hdb st1 hpl).wk fun σ H Q ⟨ok, g, e, q⟩ => ⟨ok, g, e, fun b1 v1 H1 kb1 f1 ok1 hv1 => ⟨b1, ok1, g, kb1, fun b2 v2 H2 kb2 f2 ok2 hv2 => ⟨b1, b2, ok2, g, kb2, fun b3 v3 H3 kb3 f3 ok3 hv3 => ⟨b1, b2, b3, ok3, g, kb3, fun b4 v4 H4 kb4 f4 ok4 hv4 => by
    obtain ⟨r, er, kr⟩ := bind_some kb4
    have hv1 : v1 = _ := hv1
    subst hv1
    obtain ⟨G0, hcell, hnd, ret_f, ret_o⟩ := ok4.lend1 (hj b1 b2 b3 b4)
    refine ⟨_, v2, v3, v4, G0, s1 b1 b2 b3 b4, x2 b1 b2, x3 b1 b2 b3, x4 b1 b2 b3 b4, rfl, hcell, hnd, ((E2 _).mono (f3.fz.trans f4.fz) hv2), ((E3 _).mono f4.fz hv3), hv4, r, er, fun v H' hk => ?_⟩
    obtain ⟨ok', st⟩ := ret_o _ _ _ _ hk
    exact q ((b1, b2, b3, b4), r) v H' kr ((((f1.trans f2).trans f3).trans f4).trans st) (ok'.since (((f1.trans f2).trans f3).trans f4))⟩⟩⟩⟩
def Sp_OFF_f {α1 α2 α3 ρ : Type} (E1 : α1 → Od) (E2 : α2 → Pd) (E3 : α3 → Pd) (Mf : α1 → α2 → α3 → Option (ρ × α1)) (Rp : ρ → Pd) : Sp := fun vs H Q _ => ∃ (v1 v2 v3 : V) (G1 : List Addr) (a1 : α1) (a2 : α2) (a3 : α3), vs = [v1, v2, v3] ∧ (E1 a1).pr G1 H v1 ∧ G1.Nodup ∧ (E2 a2).pr H v2 ∧ (E3 a3).pr H v3 ∧ ∃ r, Mf a1 a2 a3 = some r ∧ RF ⟨H, [G1]⟩ (fun r => [⟨v1, E1 r.2, some 0⟩]) (fun r => Rp r.1) r Q
theorem fn_OFF_f {P : Program} {w : World} {K : PySem.W.Frag} {mg : Str → Option Value} {base : Heap} {x qual : Str} {params : Arguments} {body : List Stmt} {scope : Scope} {dvs : List V} {kws : List (Str × V)} {f : Addr} {fd : FuncData} {N ps : List Str} {k : Nat} {α1 α2 α3 ρ : Type} {E1 : α1 → Od} {E2 : α2 → Pd} {E3 : α3 → Pd} {Mf : α1 → α2 → α3 → Option (ρ × α1)} {Rp : ρ → Pd}
    (FD : FunD K x qual params body scope dvs kws f fd) (S : FnScope N ps scope) (hl : 3 = ps.length)
    (hb : ∀ (cdv : Value) (A : Around) (outer : List Env) (s : Shared) (H : Hp) (E : XK) (hr : Room k (A.deeper (envOfC qual scope s.heap.objs.size f cdv))) (v1 : V) (G1 : List Addr) (a1 : α1) (a2 : α2) (a3 : α3), PSs (cxOf CX0 P w K mg base N qual scope f cdv A outer s H E).nox body
      (tS ⟨H, [G1]⟩ (([pV v1, E2 a2, E3 a3] : List Pd).map some ++ List.replicate (N.length - 3) none) [⟨v1, E1 a1, some 0⟩] (fF (RF ⟨H, [G1]⟩ (fun r => [⟨v1, E1 r.2, some 0⟩]) (fun r => Rp r.1))) (Mf a1 a2 a3))) : FnOk P w K mg base CX0 (k + 1) f fd ps (Sp_OFF_f E1 E2 E3 Mf Rp) := by
  refine FD.ok S (fun vs H Q E h => ?_) (fun cdv A outer s H vs Q E hr h => ?_)
  · obtain ⟨v1, v2, v3, G1, a1, a2, a3, rfl, _⟩ := h
    exact hl
  · obtain ⟨v1, v2, v3, G1, a1, a2, a3, rfl, p1, n1, p2, p3, r, hM, fin⟩ := h
    refine ⟨_, PSs.nox (hb cdv A outer s H E hr v1 G1 a1 a2 a3), ok_start (Δ := [⟨G1, v1, E1 a1, some 0⟩]) rfl (.cons rfl (.cons p2 (.cons p3 (.nil)))) ?_ ?_ ?_, r, hM, fin⟩
    · intro c hc; rw [List.mem_singleton.mp hc]; exact p1
    · rw [cellsOf_cons]; show (_ ++ []).Nodup; rw [List.append_nil]; exact n1
    · intro i c h; match i, h with | 0, h => cases h; rfl | _ + 1, h => cases h
theorem x_OFF_f {X : Cx} {F : Fm} {Γ : Gm} {Δ : Δs} {γ : Type} {x : Str} {p pos : Pos} {e1 e2 e3 : Expr} {f : Addr} {fd : FuncData} {ps : List Str} {kk : Nat} {α1 α2 α3 ρ β1 β2 β3 : Type} {E1 : α1 → Od} {E2 : α2 → Pd} {E3 : α3 → Pd} {Mf : α1 → α2 → α3 → Option (ρ × α1)} {Rp : ρ → Pd} {T : Option γ} {Δ1 : β1 → Δs} {k1 : β1 → Option γ} {Δ2 : β1 → β2 → Δs} {x2 : β1 → β2 → α2} {k2 : β1 → β2 → Option γ} {Δ3 : β1 → β2 → β3 → Δs} {x3 : β1 → β2 → β3 → α3} {v1 : V} {prm : Option Nat} {s1 : β1 → β2 → β3 → α1} {k : (β1 × β2 × β3) × (ρ × α1) → Option γ}
    (G : FnOk X.prog X.w X.K X.mg X.base CX0 kk f fd ps (Sp_OFF_f E1 E2 E3 Mf Rp)) (hr : Room kk X.A) (hm : X.mg x = some (.ref f)) (hk : PySem.W.keepIn X.K (.ref f) = true) (hb : Binds X.K fd ps []) (j : Nat) (h1 : PE X e1 (tE true F Γ Δ T (k1) (fun b1 => pV v1) (Δ1))) (h2 : ∀ b1, PE X e2 (tE true F Γ (Δ1 b1) (k1 b1) (k2 b1) (fun b2 => E2 (x2 b1 b2)) (Δ2 b1))) (h3 : ∀ b1 b2, PE X e3 (tE true F Γ (Δ2 b1 b2) (k2 b1 b2) (fun b3 => (Mf (s1 b1 b2 b3) (x2 b1 b2) (x3 b1 b2 b3)).bind fun r => k ((b1, b2, b3), r)) (fun b3 => E3 (x3 b1 b2 b3)) (Δ3 b1 b2)))
    (hj : ∀ b1 b2 b3, (Δ3 b1 b2 b3)[j]? = some ⟨v1, E1 (s1 b1 b2 b3), prm⟩) (hg : Gl X x := by rfl) (hdb : (x == ("__debug__" : Str)) = false := by decide) (st1 : starEach [e1, e2, e3] X.env = (false, eval e1 X.env) :: starEach [e2, e3] X.env := by rfl) (st2 : starEach [e2, e3] X.env = (false, eval e2 X.env) :: starEach [e3] X.env := by rfl) (st3 : starEach [e3] X.env = (false, eval e3 X.env) :: starEach [] X.env := by rfl) (hpl : (backTo pos (starEach [e2, e3] X.env)).any (·.1) = false := by rfl) :
    PE X (.Call (.Name x p) [e1, e2, e3] [] pos) (tE true F Γ Δ T k (fun b => Rp b.2.1) fun b => (Δ3 b.1.1 b.1.2.1 b.1.2.2).set j ⟨v1, E1 b.2.2, prm⟩) :=
  (pe_call G hr hg hm hk hb .nil pass0 (pa_cons h1 (pa_cons (pe_ex fun b1 => h2 b1) (pa_cons (pe_ex fun b1 => pe_ex fun b2 => h3 b1 b2) pa_nil st3) st2) st1) hdb st1 hpl).wk fun σ H Q ⟨ok, g, e, q⟩ => ⟨ok, g, e, fun b1 v1 H1 kb1 f1 ok1 hv1 => ⟨b1, ok1, g, kb1, fun b2 v2 H2 kb2 f2 ok2 hv2 => ⟨b1, b2, ok2, g, kb2, fun b3 v3 H3 kb3 f3 ok3 hv3 => by
    obtain ⟨r, er, kr⟩ := bind_some kb3
    have hv1 : v1 = _ := hv1
    subst hv1
    obtain ⟨G0, hcell, hnd, ret_f, ret_o⟩ := ok3.lend1 (hj b1 b2 b3)
    refine ⟨_, v2, v3, G0, s1 b1 b2 b3, x2 b1 b2, x3 b1 b2 b3, rfl, hcell, hnd, ((E2 _).mono f3.fz hv2), hv3, r, er, fun v H' hk hv => ?_⟩
    obtain ⟨ok', st⟩ := ret_f _ _ hk
    exact q ((b1, b2, b3), r) v H' kr (((f1.trans f2).trans f3).trans st) ok' hv⟩⟩⟩
def Sp_OFF_o {α1 α2 α3 ρ : Type} (E1 : α1 → Od) (E2 : α2 → Pd) (E3 : α3 → Pd) (Mf : α1 → α2 → α3 → Option (ρ × α1)) (Rp : ρ → Od) : Sp := fun vs H Q _ => ∃ (v1 v2 v3 : V) (G1 : List Addr) (a1 : α1) (a2 : α2) (a3 : α3), vs = [v1, v2, v3] ∧ (E1 a1).pr G1 H v1 ∧ G1.Nodup ∧ (E2 a2).pr H v2 ∧ (E3 a3).pr H v3 ∧ ∃ r, Mf a1 a2 a3 = some r ∧ RO ⟨H, [G1]⟩ (fun r => [⟨v1, E1 r.2, some 0⟩]) (fun r => Rp r.1) r Q
theorem fn_OFF_o {P : Program} {w : World} {K : PySem.W.Frag} {mg : Str → Option Value} {base : Heap} {x qual : Str} {params : Arguments} {body : List Stmt} {scope : Scope} {dvs : List V} {kws : List (Str × V)} {f : Addr} {fd : FuncData} {N ps : List Str} {k : Nat} {α1 α2 α3 ρ : Type} {E1 : α1 → Od} {E2 : α2 → Pd} {E3 : α3 → Pd} {Mf : α1 → α2 → α3 → Option (ρ × α1)} {Rp : ρ → Od}
    (FD : FunD K x qual params body scope dvs kws f fd) (S : FnScope N ps scope) (hl : 3 = ps.length)
    (hb : ∀ (cdv : Value) (A : Around) (outer : List Env) (s : Shared) (H : Hp) (E : XK) (hr : Room k (A.deeper (envOfC qual scope s.heap.objs.size f cdv))) (v1 : V) (G1 : List Addr) (a1 : α1) (a2 : α2) (a3 : α3), PSs (cxOf CX0 P w K mg base N qual scope f cdv A outer s H E).nox body
      (tS ⟨H, [G1]⟩ (([pV v1, E2 a2, E3 a3] : List Pd).map some ++ List.replicate (N.length - 3) none) [⟨v1, E1 a1, some 0⟩] (fF (RO ⟨H, [G1]⟩ (fun r => [⟨v1, E1 r.2, some 0⟩]) (fun r => Rp r.1))) (Mf a1 a2 a3))) : FnOk P w K mg base CX0 (k + 1) f fd ps (Sp_OFF_o E1 E2 E3 Mf Rp) := by
  refine FD.ok S (fun vs H Q E h => ?_) (fun cdv A outer s H vs Q E hr h => ?_)
  · obtain ⟨v1, v2, v3, G1, a1, a2, a3, rfl, _⟩ := h
    exact hl
  · obtain ⟨v1, v2, v3, G1, a1, a2, a3, rfl, p1, n1, p2, p3, r, hM, fin⟩ := h
    refine ⟨_, PSs.nox (hb cdv A outer s H E hr v1 G1 a1 a2 a3), ok_start (Δ := [⟨G1, v1, E1 a1, some 0⟩]) rfl (.cons rfl (.cons p2 (.cons p3 (.nil)))) ?_ ?_ ?_, r, hM, fin⟩
    · intro c hc; rw [List.mem_singleton.mp hc]; exact p1
    · rw [cellsOf_cons]; show (_ ++ []).Nodup; rw [List.append_nil]; exact n1
    · intro i c h; match i, h with | 0, h => cases h; rfl | _ + 1, h => cases h
theorem x_OFF_o {X : Cx} {F : Fm} {Γ : Gm} {Δ : Δs} {γ : Type} {x : Str} {p pos : Pos} {e1 e2 e3 : Expr} {f : Addr} {fd : FuncData} {ps : List Str} {kk : Nat} {α1 α2 α3 ρ β1 β2 β3 : Type} {E1 : α1 → Od} {E2 : α2 → Pd} {E3 : α3 → Pd} {Mf : α1 → α2 → α3 → Option (ρ × α1)} {Rp : ρ → Od} {T : Option γ} {Δ1 : β1 → Δs} {k1 : β1 → Option γ} {Δ2 : β1 → β2 → Δs} {x2 : β1 → β2 → α2} {k2 : β1 → β2 → Option γ} {Δ3 : β1 → β2 → β3 → Δs} {x3 : β1 → β2 → β3 → α3} {v1 : V} {prm : Option Nat} {s1 : β1 → β2 → β3 → α1} {k : (β1 × β2 × β3) × (ρ × α1) → Option γ}
    (G : FnOk X.prog X.w X.K X.mg X.base CX0 kk f fd ps (Sp_OFF_o E1 E2 E3 Mf Rp)) (hr : Room kk X.A) (hm : X.mg x = some (.ref f)) (hk : PySem.W.keepIn X.K (.ref f) = true) (hb : Binds X.K fd ps []) (j : Nat) (h1 : PE X e1 (tE true F Γ Δ T (k1) (fun b1 => pV v1) (Δ1))) (h2 : ∀ b1, PE X e2 (tE true F Γ (Δ1 b1) (k1 b1) (k2 b1) (fun b2 => E2 (x2 b1 b2)) (Δ2 b1))) (h3 : ∀ b1 b2, PE X e3 (tE true F Γ (Δ2 b1 b2) (k2 b1 b2) (fun b3 => (Mf (s1 b1 b2 b3) (x2 b1 b2) (x3 b1 b2 b3)).bind fun r => k ((b1, b2, b3), r)) (fun b3 => E3 (x3 b1 b2 b3)) (Δ3 b1 b2)))
    (hj : ∀ b1 b2 b3, (Δ3 b1 b2 b3)[j]? = some ⟨v1, E1 (s1 b1 b2 b3), prm⟩) (hg : Gl X x := by rfl) (hdb : (x == ("__debug__" : Str)) = false := by decide) (st1 : starEach [e1, e2, e3] X.env = (false, eval e1 X.env) :: starEach [e2, e3] X.env := by rfl) (st2 : starEach [e2, e3] X.env = (false, eval e2 X.env) :: starEach [e3] X.env := by rfl) (st3 : starEach [e3] X.env = (false, eval e3 X.env) :: starEach [] X.env := by rfl) (hpl : (backTo pos (starEach [e2, e3] X.env)).any (·.1) = false := by rfl) :
    PE X (.Call (.Name x p) [e1, e2, e3] [] pos) (tO true F Γ Δ T k (fun b => Rp b.2.1) fun b => (Δ3 b.1.1 b.1.2.1 b.1.2.2).set j ⟨v1, E1 b.2.2, prm⟩) :=
  (pe_call G hr hg hm hk hb .nil pass0 (pa_cons h1 (pa_cons (pe_ex fun b1 => h2 b1) (pa_cons (pe_ex fun b1 => pe_ex fun b2 => h3 b1 b2) pa_nil st3) st2) st1) hdb st1 hpl).wk fun σ H Q ⟨ok, g, e, q⟩ => ⟨ok, g, e, fun b1 v1 H1 kb1 f1 ok1 hv1 => ⟨b1, ok1, g, kb1, fun b2 v2 H2 kb2 f2 ok2 hv2 => ⟨b1, b2, ok2, g, kb2, fun b3 v3 H3 kb3 f3 ok3 hv3 => by
    obtain ⟨r, er, kr⟩ := bind_some kb3
    have hv1 : v1 = _ := hv1
    subst hv1
    obtain ⟨G0, hcell, hnd, ret_f, ret_o⟩ := ok3.lend1 (hj b1 b2 b3)
    refine ⟨_, v2, v3, G0, s1 b1 b2 b3, x2 b1 b2, x3 b1 b2 b3, rfl, hcell, hnd, ((E2 _).mono f3.fz hv2), hv3, r, er, fun v H' hk => ?_⟩
    obtain ⟨ok', st⟩ := ret_o _ _ _ _ hk
    exact q ((b1, b2, b3), r) v H' kr (((f1.trans f2).trans f3).trans st) (ok'.since ((f1.trans f2).trans f3))⟩⟩⟩
def Sp_OF_f {α1 α2 ρ : Type} (E1 : α1 → Od) (E2 : α2 → Pd) (Mf : α1 → α2 → Option (ρ × α1)) (Rp : ρ → Pd) : Sp := fun vs H Q _ => ∃ (v1 v2 : V) (G1 : List Addr) (a1 : α1) (a2 : α2), vs = [v1, v2] ∧ (E1 a1).pr G1 H v1 ∧ G1.Nodup ∧ (E2 a2).pr H v2 ∧ ∃ r, Mf a1 a2 = some r ∧ RF ⟨H, [G1]⟩ (fun r => [⟨v1, E1 r.2, some 0⟩]) (fun r => Rp r.1) r Q
theorem fn_OF_f {P : Program} {w : World} {K : PySem.W.Frag} {mg : Str → Option Value} {base : Heap} {x qual : Str} {params : Arguments} {body : List Stmt} {scope : Scope} {dvs : List V} {kws : List (Str × V)} {f : Addr} {fd : FuncData} {N ps : List Str} {k : Nat} {α1 α2 ρ : Type} {E1 : α1 → Od} {E2 : α2 → Pd} {Mf : α1 → α2 → Option (ρ × α1)} {Rp : ρ → Pd}
    (FD : FunD K x qual params body scope dvs kws f fd) (S : FnScope N ps scope) (hl : 2 = ps.length)
    (hb : ∀ (cdv : Value) (A : Around) (outer : List Env) (s : Shared) (H : Hp) (E : XK) (hr : Room k (A.deeper (envOfC qual scope s.heap.objs.size f cdv))) (v1 : V) (G1 : List Addr) (a1 : α1) (a2 : α2), PSs (cxOf CX0 P w K mg base N qual scope f cdv A outer s H E).nox body
      (tS ⟨H, [G1]⟩ (([pV v1, E2 a2] : List Pd).map some ++ List.replicate (N.length - 2) none) [⟨v1, E1 a1, some 0⟩] (fF (RF ⟨H, [G1]⟩ (fun r => [⟨v1, E1 r.2, some 0⟩]) (fun r => Rp r.1))) (Mf a1 a2))) : FnOk P w K mg base CX0 (k + 1) f fd ps (Sp_OF_f E1 E2 Mf Rp) := by
  refine FD.ok S (fun vs H Q E h => ?_) (fun cdv A outer s H vs Q E hr h => ?_)
  · obtain ⟨v1, v2, G1, a1, a2, rfl, _⟩ := h
    exact hl
  · obtain ⟨v1, v2, G1, a1, a2, rfl, p1, n1, p2, r, hM, fin⟩ := h
    refine ⟨_, PSs.nox (hb cdv A outer s H E hr v1 G1 a1 a2), ok_start (Δ := [⟨G1, v1, E1 a1, some 0⟩]) rfl (.cons rfl (.cons p2 (.nil))) ?_ ?_ ?_, r, hM, fin⟩
    · intro c hc; rw [List.mem_singleton.mp hc]; exact p1
    · rw [cellsOf_cons]; show (_ ++ []).Nodup; rw [List.append_nil]; exact n1
    · intro i c h; match i, h with | 0, h => cases h; rfl | _ + 1, h => cases h
theorem x_OF_f {X : Cx} {F : Fm} {Γ : Gm} {Δ : Δs} {γ : Type} {x : Str} {p pos : Pos} {e1 e2 : Expr} {f : Addr} {fd : FuncData} {ps : List Str} {kk : Nat} {α1 α2 ρ β1 β2 : Type} {E1 : α1 → Od} {E2 : α2 → Pd} {Mf : α1 → α2 → Option (ρ × α1)} {Rp : ρ → Pd} {T : Option γ} {Δ1 : β1 → Δs} {k1 : β1 → Option γ} {Δ2 : β1 → β2 → Δs} {x2 : β1 → β2 → α2} {v1 : V} {prm : Option Nat} {s1 : β1 → β2 → α1} {k : (β1 × β2) × (ρ × α1) → Option γ}
    (G : FnOk X.prog X.w X.K X.mg X.base CX0 kk f fd ps (Sp_OF_f E1 E2 Mf Rp)) (hr : Room kk X.A) (hm : X.mg x = some (.ref f)) (hk : PySem.W.keepIn X.K (.ref f) = true) (hb : Binds X.K fd ps []) (j : Nat) (h1 : PE X e1 (tE true F Γ Δ T (k1) (fun b1 => pV v1) (Δ1))) (h2 : ∀ b1, PE X e2 (tE true F Γ (Δ1 b1) (k1 b1) (fun b2 => (Mf (s1 b1 b2) (x2 b1 b2)).bind fun r => k ((b1, b2), r)) (fun b2 => E2 (x2 b1 b2)) (Δ2 b1)))
    (hj : ∀ b1 b2, (Δ2 b1 b2)[j]? = some ⟨v1, E1 (s1 b1 b2), prm⟩) (hg : Gl X x := by rfl) (hdb : (x == ("__debug__" : Str)) = false := by decide) (st1 : starEach [e1, e2] X.env = (false, eval e1 X.env) :: starEach [e2] X.env := by rfl) (st2 : starEach [e2] X.env = (false, eval e2 X.env) :: starEach [] X.env := by rfl) (hpl : (backTo pos (starEach [e2] X.env)).any (·.1) = false := by rfl) :
    PE X (.Call (.Name x p) [e1, e2] [] pos) (tE true F Γ Δ T k (fun b => Rp b.2.1) fun b => (Δ2 b.1.1 b.1.2).set j ⟨v1, E1 b.2.2, prm⟩) :=
  (pe_call G hr hg hm hk hb .nil pass0 (pa_cons h1 (pa_cons (pe_ex fun b1 => h2 b1) pa_nil st2) st1) hdb st1 hpl).wk fun σ H Q ⟨ok, g, e, q⟩ => ⟨ok, g, e, fun b1 v1 H1 kb1 f1 ok1 hv1 => ⟨b1, ok1, g, kb1, fun b2 v2 H2 kb2 f2 ok2 hv2 => by
    obtain ⟨r, er, kr⟩ := bind_some kb2
    have hv1 : v1 = _ := hv1
    subst hv1
    obtain ⟨G0, hcell, hnd, ret_f, ret_o⟩ := ok2.lend1 (hj b1 b2)
    refine ⟨_, v2, G0, s1 b1 b2, x2 b1 b2, rfl, hcell, hnd, hv2, r, er, fun v H' hk hv => ?_⟩
    obtain ⟨ok', st⟩ := ret_f _ _ hk
    exact q ((b1, b2), r) v H' kr ((f1.trans f2).trans st) ok' hv⟩⟩
def Sp_OF_o {α1 α2 ρ : Type} (E1 : α1 → Od) (E2 : α2 → Pd) (Mf : α1 → α2 → Option (ρ × α1)) (Rp : ρ → Od) : Sp := fun vs H Q _ => ∃ (v1 v2 : V) (G1 : List Addr) (a1 : α1) (a2 : α2), vs = [v1, v2] ∧ (E1 a1).pr G1 H v1 ∧ G1.Nodup ∧ (E2 a2).pr H v2 ∧ ∃ r, Mf a1 a2 = some r ∧ RO ⟨H, [G1]⟩ (fun r => [⟨v1, E1 r.2, some 0⟩]) (fun r => Rp r.1) r Q
theorem fn_OF_o {P : Program} {w : World} {K : PySem.W.Frag} {mg : Str → Option Value} {base : Heap} {x qual : Str} {params : Arguments} {body : List Stmt} {scope : Scope} {dvs : List V} {kws : List (Str × V)} {f : Addr} {fd : FuncData} {N ps : List Str} {k : Nat} {α1 α2 ρ : Type} {E1 : α1 → Od} {E2 : α2 → Pd} {Mf : α1 → α2 → Option (ρ × α1)} {Rp : ρ → Od}
    (FD : FunD K x qual params body scope dvs kws f fd) (S : FnScope N ps scope) (hl : 2 = ps.length)
    (hb : ∀ (cdv : Value) (A : Around) (outer : List Env) (s : Shared) (H : Hp) (E : XK) (hr : Room k (A.deeper (envOfC qual scope s.heap.objs.size f cdv))) (v1 : V) (G1 : List Addr) (a1 : α1) (a2 : α2), PSs (cxOf CX0 P w K mg base N qual scope f cdv A outer s H E).nox body
      (tS ⟨H, [G1]⟩ (([pV v1, E2 a2] : List Pd).map some ++ List.replicate (N.length - 2) none) [⟨v1, E1 a1, some 0⟩] (fF (RO ⟨H, [G1]⟩ (fun r => [⟨v1, E1 r.2, some 0⟩]) (fun r => Rp r.1))) (Mf a1 a2))) : FnOk P w K mg base CX0 (k + 1) f fd ps (Sp_OF_o E1 E2 Mf Rp) := by
  refine FD.ok S (fun vs H Q E h => ?_) (fun cdv A outer s H vs Q E hr h => ?_)
  · obtain ⟨v1, v2, G1, a1, a2, rfl, _⟩ := h
    exact hl
  · obtain ⟨v1, v2, G1, a1, a2, rfl, p1, n1, p2, r, hM, fin⟩ := h
    refine ⟨_, PSs.nox (hb cdv A outer s H E hr v1 G1 a1 a2), ok_start (Δ := [⟨G1, v1, E1 a1, some 0⟩]) rfl (.cons rfl (.cons p2 (.nil))) ?_ ?_ ?_, r, hM, fin⟩
    · intro c hc; rw [List.mem_singleton.mp hc]; exact p1
    · rw [cellsOf_cons]; show (_ ++ []).Nodup; rw [List.append_nil]; exact n1
    · intro i c h; match i, h with | 0, h => cases h; rfl | _ + 1, h => cases h
theorem x_OF_o {X : Cx} {F : Fm} {Γ : Gm} {Δ : Δs} {γ : Type} {x : Str} {p pos : Pos} {e1 e2 : Expr} {f : Addr} {fd : FuncData} {ps : List Str} {kk : Nat} {α1 α2 ρ β1 β2 : Type} {E1 : α1 → Od} {E2 : α2 → Pd} {Mf : α1 → α2 → Option (ρ × α1)} {Rp : ρ → Od} {T : Option γ} {Δ1 : β1 → Δs} {k1 : β1 → Option γ} {Δ2 : β1 → β2 → Δs} {x2 : β1 → β2 → α2} {v1 : V} {prm : Option Nat} {s1 : β1 → β2 → α1} {k : (β1 × β2) × (ρ × α1) → Option γ}
    (G : FnOk X.prog X.w X.K X.mg X.base CX0 kk f fd ps (Sp_OF_o E1 E2 Mf Rp)) (hr : Room kk X.A) (hm : X.mg x = some (.ref f)) (hk : PySem.W.keepIn X.K (.ref f) = true) (hb : Binds X.K fd ps []) (j : Nat) (h1 : PE X e1 (tE true F Γ Δ T (k1) (fun b1 => pV v1) (Δ1))) (h2 : ∀ b1, PE X e2 (tE true F Γ (Δ1 b1) (k1 b1) (fun b2 => (Mf (s1 b1 b2) (x2 b1 b2)).bind fun r => k ((b1, b2), r)) (fun b2 => E2 (x2 b1 b2)) (Δ2 b1)))
    (hj : ∀ b1 b2, (Δ2 b1 b2)[j]? = some ⟨v1, E1 (s1 b1 b2), prm⟩) (hg : Gl X x := by rfl) (hdb : (x == ("__debug__" : Str)) = false := by decide) (st1 : starEach [e1, e2] X.env = (false, eval e1 X.env) :: starEach [e2] X.env := by rfl) (st2 : starEach [e2] X.env = (false, eval e2 X.env) :: starEach [] X.env := by rfl) (hpl : (backTo pos (starEach [e2] X.env)).any (·.1) = false := by rfl) :
    PE X (.Call (.Name x p) [e1, e2] [] pos) (tO true F Γ Δ T k (fun b => Rp b.2.1) fun b => (Δ2 b.1.1 b.1.2).set j ⟨v1, E1 b.2.2, prm⟩) :=
  (pe_call G hr hg hm hk hb .nil pass0 (pa_cons h1 (pa_cons (pe_ex fun b1 => h2 b1) pa_nil st2) st1) hdb st1 hpl).wk fun σ H Q ⟨ok, g, e, q⟩ => ⟨ok, g, e, fun b1 v1 H1 kb1 f1 ok1 hv1 => ⟨b1, ok1, g, kb1, fun b2 v2 H2 kb2 f2 ok2 hv2 => by
    obtain ⟨r, er, kr⟩ := bind_some kb2
    have hv1 : v1 = _ := hv1
    subst hv1
    obtain ⟨G0, hcell, hnd, ret_f, ret_o⟩ := ok2.lend1 (hj b1 b2)
    refine ⟨_, v2, G0, s1 b1 b2, x2 b1 b2, rfl, hcell, hnd, hv2, r, er, fun v H' hk => ?_⟩
    obtain ⟨ok', st⟩ := ret_o _ _ _ _ hk
    exact q ((b1, b2), r) v H' kr ((f1.trans f2).trans st) (ok'.since (f1.trans f2))⟩⟩
end L3
end
section
set_option Elab.async false
set_option linter.all false
set_option maxRecDepth 100000
set_option maxHeartbeats 4000000
namespace L3
open PySem PySem.Spec PyProof.Rows L2
/-! ### what is walked -/
def WalkF {α : Type} (J : It) (Ex : α → Pd) (xs : List α) (H : Hp) : Prop := ∀ H', Fzs H H' → ∀ i, (i < xs.length → J.go i H') ∧ (xs.length ≤ i → J.stop i H') ∧ ∀ x v H'', xs[i]? = some x → J.yld i H' v H'' → Gr H' H'' ∧ (Ex x).pr H'' v
def tI {α β γ : Type} (W : Bool) (F : Fm) (Γ : Gm) (Δ : Δs) (T : Option γ) (k : β → Option γ) (Ex : α → Pd) (xs : β → List α) (Δ' : β → Δs) : TI := fun σ H R =>
  Ok F Γ Δ σ H ∧ ∃ g, T = some g ∧ ∀ b J H', k b = some g → St W H H' → Ok F Γ (Δ' b) σ H' → (xs b).length ≤ sizeLine → WalkF J Ex (xs b) H' → R J H'
def forS {α S : Type} : List α → S → (α → S → Option S) → Option S
  | [], s, _ => some s
  | x :: xs, s, f => (f x s).bind fun s' => forS xs s' f
def forL {α S ρ : Type} : List α → S → (α → S → Option (Bo S (Tm S ρ))) → Option (Bo S ρ)
  | [], s, _ => some (.nx s)
  | x :: xs, s, f => (f x s).bind fun o => match o with
    | .nx s' => forL xs s' f
    | .tm (.ct s') => forL xs s' f
    | .tm (.bk s') => some (.nx s')
    | .tm (.rt r) => some (.tm r)
def rngL (lo : Int) (n : Nat) : List Int := (List.range n).map fun (i : Nat) => lo + (i : Int)
def rg (n : Int) : Bool := decide (-(2 ^ 62) ≤ n) && decide (n ≤ 16777216)
def rg2 (m n : Int) : Bool := decide (-(2 ^ 62) ≤ m) && (decide (m < 2 ^ 62) && (decide (-(2 ^ 62) ≤ n) && (decide (n < 2 ^ 62) && decide (n - m ≤ 16777216))))
theorem rngL_len (lo : Int) (n : Nat) : (rngL lo n).length = n := by unfold rngL; rw [List.length_map, List.length_range]
section
variable {X : Cx} {W : Bool} {F : Fm} {Γ : Gm} {Δ : Δs} {γ : Type}
theorem _root_.L2.PI.wk {tg iter : Expr} {t t' : TI} (h : PI X tg iter t) (w : ∀ σ H R, t' σ H R → t σ H R) : PI X tg iter t' := ⟨fun pins s σ H R I q => h.run pins s σ H R I (w σ H R q)⟩
theorem i_list {tg l : Expr} {α β : Type} {T : Option γ} {k : β → Option γ} {Ex : α → Pd} {xs : β → List α} {Δ' : β → Δs} (he : PE X l (tE W F Γ Δ T k (fun b => pL Ex (xs b)) Δ')) : PI X tg l (tI W F Γ Δ T k Ex xs Δ') :=
  (pi_list he).wk fun σ H R ⟨ok, g, e, q⟩ => ⟨ok, g, e, fun b v H' kb f ok' ⟨a, o, vs, ev, h, z, p⟩ => ⟨a, ev, ⟨vs, .inl (.inr ⟨o, h⟩)⟩, q b _ H' kb f ok' z fun H2 f2 i => by
    have h2 : SqL X.K H2 a vs := .inl (.inr ⟨o, f2 _ _ trivial h⟩)
    refine ⟨fun hi => ?_, fun hi => ⟨vs, h2, by rw [← paired_len p]; exact hi⟩, fun x v H3 hx hy => ?_⟩
    · obtain ⟨u, hu, _⟩ := paired_at p (List.getElem?_eq_getElem hi)
      exact ⟨vs, u, h2, hu⟩
    · obtain ⟨e3, hy⟩ := hy
      obtain ⟨u, hu, pu⟩ := paired_at p hx
      have e4 := hy vs h2
      rw [hu] at e4
      cases e4
      subst e3
      exact ⟨Gr.refl _, (Ex x).mono f2 pu⟩⟩⟩
theorem i_tupL {tg l : Expr} {α β : Type} {T : Option γ} {k : β → Option γ} {Ex : α → Pd} {xs : β → List α} {Δ' : β → Δs} (he : PE X l (tE W F Γ Δ T k (fun b => pTL Ex (xs b)) Δ')) : PI X tg l (tI W F Γ Δ T k Ex xs Δ') :=
  (pi_tup he).wk fun σ H R ⟨ok, g, e, q⟩ => ⟨ok, g, e, fun b v H' kb f ok' ⟨a, vs, ev, h, z, p⟩ => ⟨a, ev, ⟨vs, .inl (.inl h)⟩, q b _ H' kb f ok' z fun H2 f2 i => by
    have h2 : SqT X.K H2 a vs := .inl (.inl (f2 _ _ trivial h))
    refine ⟨fun hi => ?_, fun hi => ⟨vs, h2, by rw [← paired_len p]; exact hi⟩, fun x v H3 hx hy => ?_⟩
    · obtain ⟨u, hu, _⟩ := paired_at p (List.getElem?_eq_getElem hi)
      exact ⟨vs, u, h2, hu⟩
    · obtain ⟨e3, hy⟩ := hy
      obtain ⟨u, hu, pu⟩ := paired_at p hx
      have e4 := hy vs h2
      rw [hu] at e4
      cases e4
      subst e3
      exact ⟨Gr.refl _, (Ex x).mono f2 pu⟩⟩⟩
theorem rng_walk {lo : Int} {n : Nat} {H : Hp} : WalkF (Itr lo n) pInt (rngL lo n) H := fun H2 f2 i => by
  have hl : (rngL lo n).length = n := by unfold rngL; rw [List.length_map, List.length_range]
  rw [hl]
  refine ⟨fun h => h, fun h => h, fun x v H3 hx hy => ?_⟩
  obtain ⟨e1, e2⟩ := hy
  subst e1
  refine ⟨Gr.refl _, ?_⟩
  unfold rngL at hx
  rw [List.getElem?_map] at hx
  cases hr : (List.range n)[i]? with
  | none => rw [hr] at hx; cases hx
  | some m =>
    rw [hr] at hx
    have hi : i < n := by
      have := (List.getElem?_eq_some_iff.mp hr).1
      rwa [List.length_range] at this
    rw [List.getElem?_range hi] at hr
    cases hr
    have hx : lo + (i : Int) = x := by simpa using hx
    rw [← hx]
    exact e2
theorem i_rng1 {tg a : Expr} {p pos : Pos} {β : Type} {T : Option γ} {k : β → Option γ} {n : β → Int} {Δ' : β → Δs} (hm : X.mg "range" = none) (he : PE X a (tE W F Γ Δ T (fun b => grd (rg (n b) = true) (k b)) (fun b => pInt (n b)) Δ')) (hg : Gl X "range" := by rfl)
    (hs : starEach [a] X.env = [(false, eval a X.env)] := by rfl) : PI X tg (.Call (.Name "range" p) [a] [] pos) (tI W F Γ Δ T k pInt (fun b => rngL 0 (n b).toNat) Δ') :=
  (pi_range1 hg hm (pa_cons he pa_nil hs) hs).wk fun σ H R ⟨ok, g, e, q⟩ => ⟨ok, g, e, fun b v H' kb f ok' hv => by
    obtain ⟨c, kb⟩ := grd_some kb
    obtain ⟨c1, c2⟩ := Bool.and_eq_true_iff.mp c
    have hv : v = .int (n b) := hv
    subst hv
    have c2 := of_decide_eq_true c2
    exact ⟨n b, rfl, of_decide_eq_true c1, by omega, q b _ H' kb f ok' (by rw [rngL_len]; have : sizeLine = 16777216 := rfl; omega) rng_walk⟩⟩
theorem i_rng2 {tg a b : Expr} {p pos : Pos} {β1 β2 : Type} {T : Option γ} {k1 : β1 → Option γ} {k : β1 × β2 → Option γ} {m : β1 → Int} {n : β1 → β2 → Int} {Δ1 : β1 → Δs} {Δ2 : β1 → β2 → Δs} (hm : X.mg "range" = none) (ha : PE X a (tE W F Γ Δ T k1 (fun b => pInt (m b)) Δ1))
    (hb : ∀ b1, PE X b (tE W F Γ (Δ1 b1) (k1 b1) (fun b2 => grd (rg2 (m b1) (n b1 b2) = true) (k (b1, b2))) (fun b2 => pInt (n b1 b2)) (Δ2 b1))) (hg : Gl X "range" := by rfl)
    (hs : starEach [a, b] X.env = [(false, eval a X.env), (false, eval b X.env)] := by rfl) (hs2 : starEach [b] X.env = [(false, eval b X.env)] := by rfl) (hs3 : starEach [a, b] X.env = (false, eval a X.env) :: starEach [b] X.env := by rfl) : PI X tg (.Call (.Name "range" p) [a, b] [] pos) (tI W F Γ Δ T k pInt (fun b => rngL (m b.1) (n b.1 b.2 - m b.1).toNat) fun b => Δ2 b.1 b.2) :=
  (pi_range2 hg hm (pa_cons ha (pa_cons (pe_ex hb) pa_nil hs2) hs3) hs hs2).wk fun σ H R ⟨ok, g, e, q⟩ => ⟨ok, g, e, fun b1 v1 H1 kb1 f1 ok1 hv1 => ⟨b1, ok1, g, kb1, fun b2 v2 H2 kb2 f2 ok2 hv2 => by
    obtain ⟨c, kb⟩ := grd_some kb2
    obtain ⟨c1, c⟩ := Bool.and_eq_true_iff.mp c
    obtain ⟨c2, c⟩ := Bool.and_eq_true_iff.mp c
    obtain ⟨c3, c⟩ := Bool.and_eq_true_iff.mp c
    obtain ⟨c4, c5⟩ := Bool.and_eq_true_iff.mp c
    have c5 := of_decide_eq_true c5
    have hv1 : v1 = .int (m b1) := hv1
    have hv2 : v2 = .int (n b1 b2) := hv2
    subst hv1 hv2
    exact ⟨m b1, n b1 b2, rfl, ⟨of_decide_eq_true c1, of_decide_eq_true c2, of_decide_eq_true c3, of_decide_eq_true c4⟩, q (b1, b2) _ H2 kb (f1.trans f2) ok2 (by rw [rngL_len]; have : sizeLine = 16777216 := rfl; dsimp only; omega) rng_walk⟩⟩⟩
/-- for k in d -/
theorem i_keys {tg l : Expr} {α β : Type} {T : Option γ} {k : β → Option γ} {Ex : α → Pd} {xs : β → List (Str × α)} {Δ' : β → Δs} (he : PE X l (tE W F Γ Δ T k (fun b => pD Ex (xs b)) Δ')) : PI X tg l (tI W F Γ Δ T k pStr (fun b => (xs b).map Prod.fst) Δ') :=
  (pi_keys he).wk fun σ H R ⟨ok, g, e, q⟩ => ⟨ok, g, e, fun b v H' kb f ok' ⟨a, o, kvs, ev, h, z, p⟩ => ⟨a, o, ev, .inl ⟨kvs, h, q b _ H' kb f ok' (by rw [List.length_map]; exact z) fun H2 f2 i => by
    have h2 : H2 a = some (.frz o (.dK kvs)) := f2 _ _ trivial h
    rw [List.length_map]
    refine ⟨fun hi => ⟨h2, by rw [← paired_len p]; exact hi⟩, fun hi => ⟨h2, by rw [← paired_len p]; exact hi⟩, fun x v H3 hx hy => ?_⟩
    obtain ⟨e3, ky, vv, ek, ev⟩ := hy
    rw [List.getElem?_map] at hx
    cases hr : (xs b)[i]? with
    | none => rw [hr] at hx; cases hx
    | some m =>
      rw [hr] at hx
      have hx : m.1 = x := by simpa using hx
      obtain ⟨u, hu, pu, _⟩ := paired_at p hr
      rw [ek] at hu
      cases hu
      subst e3
      refine ⟨Gr.refl _, ?_⟩
      have pu : ky = .inr m.1 := pu
      rw [ev, pu, hx]
      rfl⟩⟩⟩
theorem i_keysI {tg l : Expr} {α β : Type} {T : Option γ} {k : β → Option γ} {Ex : α → Pd} {xs : β → List (Int × α)} {Δ' : β → Δs} (he : PE X l (tE W F Γ Δ T k (fun b => pDI Ex (xs b)) Δ')) : PI X tg l (tI W F Γ Δ T k pInt (fun b => (xs b).map Prod.fst) Δ') :=
  (pi_keys he).wk fun σ H R ⟨ok, g, e, q⟩ => ⟨ok, g, e, fun b v H' kb f ok' ⟨a, o, kvs, ev, h, z, p⟩ => ⟨a, o, ev, .inl ⟨kvs, h, q b _ H' kb f ok' (by rw [List.length_map]; exact z) fun H2 f2 i => by
    have h2 : H2 a = some (.frz o (.dK kvs)) := f2 _ _ trivial h
    rw [List.length_map]
    refine ⟨fun hi => ⟨h2, by rw [← paired_len p]; exact hi⟩, fun hi => ⟨h2, by rw [← paired_len p]; exact hi⟩, fun x v H3 hx hy => ?_⟩
    obtain ⟨e3, ky, vv, ek, ev⟩ := hy
    rw [List.getElem?_map] at hx
    cases hr : (xs b)[i]? with
    | none => rw [hr] at hx; cases hx
    | some m =>
      rw [hr] at hx
      have hx : m.1 = x := by simpa using hx
      obtain ⟨u, hu, pu, _⟩ := paired_at p hr
      rw [ek] at hu
      cases hu
      subst e3
      refine ⟨Gr.refl _, ?_⟩
      have pu : ky = .inl m.1 := pu
      rw [ev, pu, hx]
      rfl⟩⟩⟩
/-! ### targets -/
def Tgt {α : Type} (g : TG) (Ex : α → Pd) (bd : Gm → α → Gm) : Prop := ∀ (F : Fm) (Γ : Gm) (Δ : Δs) (σ : SS) (H : Hp) (x : α) (v : V) (Q : SS → Hp → Prop), Ok F Γ Δ σ H → (Ex x).pr H v → (∀ σ', Ok F (bd Γ x) Δ σ' H → Q σ' H) → g v σ H Q
theorem tg_name {α : Type} {Ex : α → Pd} (i : Nat) : Tgt (gName i) Ex (fun Γ x => Γ.set i (some (Ex x))) := fun _ _ _ _ _ _ _ _ ok hv q => q _ (ok.set hv)
theorem tg_pair {α β : Type} {E1 : α → Pd} {E2 : β → Pd} {K : PySem.W.Frag} (i j : Nat) : Tgt (gTup K 2 (gCons (gName i) (gCons (gName j) gNil))) (pT2 E1 E2) (fun Γ x => (Γ.set i (some (E1 x.1))).set j (some (E2 x.2))) :=
  fun _ _ _ _ _ _ _ _ ok ⟨a, u, w, ev, h, p1, p2⟩ q => ⟨a, [u, w], ev, .inl (.inl h), rfl, u, [w], rfl, w, [], rfl, rfl, q _ ((ok.set p1).set p2)⟩
theorem tg_trip {α β δ : Type} {E1 : α → Pd} {E2 : β → Pd} {E3 : δ → Pd} {K : PySem.W.Frag} (i j l : Nat) : Tgt (gTup K 3 (gCons (gName i) (gCons (gName j) (gCons (gName l) gNil)))) (pT3 E1 E2 E3) (fun Γ x => ((Γ.set i (some (E1 x.1))).set j (some (E2 x.2.1))).set l (some (E3 x.2.2))) :=
  fun _ _ _ _ _ _ _ _ ok ⟨a, u, w, z, ev, h, p1, p2, p3⟩ q => ⟨a, [u, w, z], ev, .inl (.inl h), rfl, u, [w, z], rfl, w, [z], rfl, z, [], rfl, rfl, q _ (((ok.set p1).set p2).set p3)⟩
/-! ### for -/
variable {N : Fn γ} {rest : List Stmt}
theorem drop_cons {α : Type} {xs : List α} {i : Nat} (h : i < xs.length) : ∃ x, xs[i]? = some x ∧ xs.drop i = x :: xs.drop (i + 1) := ⟨xs[i], List.getElem?_eq_getElem h, List.drop_eq_getElem_cons h⟩
theorem s_for {tg iter : Expr} {body : List Stmt} {pos : Pos} {g : TG} {α β S ρ : Type} {T : Option γ} {Ex : α → Pd} {bd : Gm → α → Gm} {xs : β → List α} {Δ' : β → Δs} {f : β → α → S → Option (Bo S (Tm S ρ))} {k2 : β → S → Option γ} {ι : ρ → γ} {R : Rt ρ} (hp : PassesOwn (model X.prog X.w) X.A X.env X.xe) (C : β → S → Cxt) (s0 : β → S)
    (hi : PI X tg iter (tI true F Γ Δ T (fun b => (forL (xs b) (s0 b) (f b)).bind (boK (k2 b) ι)) Ex xs Δ')) (hg : PG X tg g) (ht : Tgt g Ex bd) (h0 : ∀ b, SubG (C b (s0 b)).1 Γ) (h0d : ∀ b, (C b (s0 b)).2.Sublist (Δ' b))
    (hb : ∀ b x s, PSs X body (tS F (bd (C b s).1 x) (C b s).2 (fB F (C b) (fT F (C b) R)) (f b x s))) (hr : ∀ b s, PSs X rest (tS F (C b s).1 (C b s).2 N (k2 b s))) (hN : ∀ H r D, N.fin H (ι r) D → R r D.rt) (hc : X.calm = true := by rfl) (hfs : ∀ x, foldedSetIterable iter X.env x = pure x := by intro _; rfl) :
    PSs X (.For tg iter body [] pos :: rest) (tS F Γ Δ N T) :=
  (pss_cons (ps_for hp hc hi hg (pss_ex fun b => pss_ex fun x => pss_ex fun s => hb b x s) hfs) (pss_ex fun b => pss_ex fun s => hr b s)).wk fun D σ H ⟨ok, gg, e, fin⟩ => ⟨ok, gg, e, fun b J H1 kb f1 ok1 _ wk => by
    obtain ⟨o, eo, ko⟩ := bind_some kb
    refine ⟨fun i m σ' H' => i + m = (xs b).length ∧ Fzs H1 H' ∧ ∃ s, Ok F (C b s).1 (C b s).2 σ' H' ∧ forL ((xs b).drop i) s (f b) = some o, ⟨(xs b).length, Nat.zero_add _, Fzs.refl _, s0 b, ok1.wk (h0 b) (h0d b), by rw [List.drop_zero]; exact eo⟩, fun i m σ2 H2 ⟨em, fz2, s, ok2, e2⟩ => ?_⟩
    by_cases hi : i < (xs b).length
    · obtain ⟨x, hx, ed⟩ := drop_cons hi
      rw [ed] at e2
      have e2 : (f b x s).bind _ = some o := e2
      obtain ⟨ob, eb, e2⟩ := bind_some e2
      refine .inr ⟨((wk H2 fz2) i).1 hi, fun σ3 H3 => (i + 1) + (m - 1) = (xs b).length ∧ Fzs H1 H3 ∧ ∃ s, Ok F (C b s).1 (C b s).2 σ3 H3 ∧ forL ((xs b).drop (i + 1)) s (f b) = some o, fun σ3 H3 h3 => ⟨m - 1, by omega, h3⟩, fun v H3 hy => ?_⟩
      obtain ⟨gr3, pv⟩ := ((wk H2 fz2) i).2.2 x v H3 hx hy
      refine ht F _ _ σ2 H3 x v _ (ok2.gr gr3) pv fun σ4 ok4 => ⟨b, x, s, ok4, ob, eb, ?_⟩
      cases ob with
      | nx s' => exact fun σ5 H5 f5 ok5 => ⟨by omega, (fz2.trans gr3.fzs).trans f5, s', ok5, e2⟩
      | tm t =>
        cases t with
        | ct s' => exact fun σ5 H5 f5 ok5 => ⟨by omega, (fz2.trans gr3.fzs).trans f5, s', ok5, e2⟩
        | bk s' =>
          have e2 : some (Bo.nx s') = some o := e2
          cases e2
          exact fun σ5 H5 f5 ok5 => ⟨b, s', ok5, gg, ko, N.mono fin (f1.fz.trans ((fz2.trans gr3.fzs).trans f5))⟩
        | rt r =>
          have e2 : some (Bo.tm r) = some o := e2
          cases e2
          have ko : some (ι r) = some gg := ko
          cases ko
          exact hN H r D fin
    · refine .inl ⟨((wk H2 fz2) i).2.1 (by omega), ?_⟩
      rw [List.drop_eq_nil_of_le (by omega)] at e2
      have e2 : some (Bo.nx s) = some o := e2
      cases e2
      exact ⟨b, s, ok2, gg, ko, N.mono fin (f1.fz.trans fz2)⟩⟩
/-- .. a body that only goes on -/
theorem s_forS {tg iter : Expr} {body : List Stmt} {pos : Pos} {g : TG} {α β S : Type} {T : Option γ} {Ex : α → Pd} {bd : Gm → α → Gm} {xs : β → List α} {Δ' : β → Δs} {f : β → α → S → Option S} {k2 : β → S → Option γ} (hp : PassesOwn (model X.prog X.w) X.A X.env X.xe) (C : β → S → Cxt) (s0 : β → S)
    (hi : PI X tg iter (tI true F Γ Δ T (fun b => (forS (xs b) (s0 b) (f b)).bind (k2 b)) Ex xs Δ')) (hg : PG X tg g) (ht : Tgt g Ex bd) (h0 : ∀ b, SubG (C b (s0 b)).1 Γ) (h0d : ∀ b, (C b (s0 b)).2.Sublist (Δ' b))
    (hb : ∀ b x s, PSs X body (tS F (bd (C b s).1 x) (C b s).2 (fN F (C b)) (f b x s))) (hr : ∀ b s, PSs X rest (tS F (C b s).1 (C b s).2 N (k2 b s))) (hc : X.calm = true := by rfl) (hfs : ∀ x, foldedSetIterable iter X.env x = pure x := by intro _; rfl) :
    PSs X (.For tg iter body [] pos :: rest) (tS F Γ Δ N T) :=
  (pss_cons (ps_for hp hc hi hg (pss_ex fun b => pss_ex fun x => pss_ex fun s => hb b x s) hfs) (pss_ex fun b => pss_ex fun s => hr b s)).wk fun D σ H ⟨ok, gg, e, fin⟩ => ⟨ok, gg, e, fun b J H1 kb f1 ok1 _ wk => by
    obtain ⟨o, eo, ko⟩ := bind_some kb
    refine ⟨fun i m σ' H' => i + m = (xs b).length ∧ Fzs H1 H' ∧ ∃ s, Ok F (C b s).1 (C b s).2 σ' H' ∧ forS ((xs b).drop i) s (f b) = some o, ⟨(xs b).length, Nat.zero_add _, Fzs.refl _, s0 b, ok1.wk (h0 b) (h0d b), by rw [List.drop_zero]; exact eo⟩, fun i m σ2 H2 ⟨em, fz2, s, ok2, e2⟩ => ?_⟩
    by_cases hi : i < (xs b).length
    · obtain ⟨x, hx, ed⟩ := drop_cons hi
      rw [ed] at e2
      have e2 : (f b x s).bind _ = some o := e2
      obtain ⟨s', eb, e2⟩ := bind_some e2
      refine .inr ⟨((wk H2 fz2) i).1 hi, fun σ3 H3 => (i + 1) + (m - 1) = (xs b).length ∧ Fzs H1 H3 ∧ ∃ s, Ok F (C b s).1 (C b s).2 σ3 H3 ∧ forS ((xs b).drop (i + 1)) s (f b) = some o, fun σ3 H3 h3 => ⟨m - 1, by omega, h3⟩, fun v H3 hy => ?_⟩
      obtain ⟨gr3, pv⟩ := ((wk H2 fz2) i).2.2 x v H3 hx hy
      exact ht F _ _ σ2 H3 x v _ (ok2.gr gr3) pv fun σ4 ok4 => ⟨b, x, s, ok4, s', eb, fun σ5 H5 f5 ok5 => ⟨by omega, (fz2.trans gr3.fzs).trans f5, s', ok5, e2⟩⟩
    · refine .inl ⟨((wk H2 fz2) i).2.1 (by omega), ?_⟩
      rw [List.drop_eq_nil_of_le (by omega)] at e2
      have e2 : s = o := Option.some.inj e2
      rw [e2] at ok2
      exact ⟨b, o, ok2, gg, ko, N.mono fin (f1.fz.trans fz2)⟩⟩
/-! ### while -/
def whL {S ρ : Type} : Nat → (S → Option (Option (Bo S (Tm S ρ)))) → S → Option (Bo S ρ)
  | 0, _, _ => none
  | n + 1, f, s => (f s).bind fun o => match o with
    | none => some (.nx s)
    | some (.nx s') => whL n f s'
    | some (.tm (.ct s')) => whL n f s'
    | some (.tm (.bk s')) => some (.nx s')
    | some (.tm (.rt r)) => some (.tm r)
theorem wfuelEx : ∃ n : Nat, n = 1000000000 := ⟨_, rfl⟩
noncomputable def wfuel : Nat := Classical.choose wfuelEx
theorem wfuel_eq : wfuel = 1000000000 := Classical.choose_spec wfuelEx
theorem s_while {ce : Expr} {body : List Stmt} {pos : Pos} {β S ρ : Type} {T : Option γ} {st : S → Option (Option (Bo S (Tm S ρ)))} {c : S → β → Bool} {f : S → β → Option (Bo S (Tm S ρ))} {k2 : S → Option γ} {ι : ρ → γ} {R : Rt ρ} (hp : PassesOwn (model X.prog X.w) X.A X.env X.xe) (C : S → Cxt) (s0 : S) (hT : T = (whL wfuel st s0).bind (boK k2 ι))
    (hcn : ∀ s, PT X ce (tTs true F (C s).1 (C s).2 (st s) (fun b => if c s b = true then (f s b).bind (fun o => some (some o)) else some none) (c s) fun _ => (C s).2)) (h0 : SubG (C s0).1 Γ) (h0d : (C s0).2.Sublist Δ)
    (hb : ∀ s b, PSs X body (tS F (C s).1 (C s).2 (fB F C (fT F C R)) (f s b))) (hr : ∀ s, PSs X rest (tS F (C s).1 (C s).2 N (k2 s))) (hN : ∀ H r D, N.fin H (ι r) D → R r D.rt) : PSs X (.While ce body [] pos :: rest) (tS F Γ Δ N T) :=
  (pss_cons (ps_while hp (pt_ex hcn) (pss_ex fun s => pss_ex fun b => hb s b)) (pss_ex hr)).wk fun D σ H ⟨ok, gg, e, fin⟩ => by
    rw [hT] at e
    obtain ⟨o, eo, ko⟩ := bind_some e
    refine ⟨fun m σ' H' => Fzs H H' ∧ ∃ s, Ok F (C s).1 (C s).2 σ' H' ∧ whL m st s = some o, ⟨wfuel, Fzs.refl _, s0, ok.wk h0 h0d, eo⟩, fun m σ2 H2 ⟨fz2, s, ok2, e2⟩ => ?_⟩
    cases m with
    | zero => cases e2
    | succ n =>
      have e2 : (st s).bind _ = some o := e2
      obtain ⟨w, ew, e2⟩ := bind_some e2
      refine ⟨s, ok2, w, ew, fun b H3 kb f3 ok3 => ?_⟩
      try dsimp only at kb
      cases hcb : c s b with
      | true =>
        rw [if_pos hcb] at kb
        obtain ⟨ob, eb, ew2⟩ := bind_some kb
        cases ew2
        refine iteT ⟨fun σ4 H4 => ∃ m', m' < n + 1 ∧ Fzs H H4 ∧ ∃ s, Ok F (C s).1 (C s).2 σ4 H4 ∧ whL m' st s = some o, fun σ4 H4 h => h, s, b, ok3, ob, eb, ?_⟩
        cases ob with
        | nx s' => exact fun σ5 H5 f5 ok5 => ⟨n, by omega, (fz2.trans f3.fz).trans f5, s', ok5, e2⟩
        | tm t =>
          cases t with
          | ct s' => exact fun σ5 H5 f5 ok5 => ⟨n, by omega, (fz2.trans f3.fz).trans f5, s', ok5, e2⟩
          | bk s' =>
            have e2 : some (Bo.nx s') = some o := e2
            cases e2
            exact fun σ5 H5 f5 ok5 => ⟨s', ok5, gg, ko, N.mono fin ((fz2.trans f3.fz).trans f5)⟩
          | rt r =>
            have e2 : some (Bo.tm r) = some o := e2
            cases e2
            have ko : some (ι r) = some gg := ko
            cases ko
            exact hN H r D fin
      | false =>
        rw [if_neg (by rw [hcb]; exact Bool.false_ne_true)] at kb
        cases kb
        have e2 : some (Bo.nx s) = some o := e2
        cases e2
        exact iteF ⟨s, ok3, gg, ko, N.mono fin (fz2.trans f3.fz)⟩
end
end L3
end
section
set_option Elab.async false
set_option linter.all false
set_option maxRecDepth 100000
set_option maxHeartbeats 4000000
namespace L3
open PySem PySem.Spec PyProof.Rows L2
/-! ### comprehensions -/
def compM {α δ S : Type} : List α → S → (α → S → Option (Option δ × S)) → Option (List δ × S)
  | [], s, _ => some ([], s)
  | x :: xs, s, f => (f x s).bind fun o => (compM xs o.2 f).bind fun r => some ((match o.1 with | none => r.1 | some y => y :: r.1), r.2)
theorem compM_len {α δ S : Type} {f : α → S → Option (Option δ × S)} : ∀ {xs : List α} {s : S} {r : List δ × S}, compM xs s f = some r → r.1.length ≤ xs.length
  | [], s, r, h => by cases h; exact Nat.le_refl _
  | x :: xs, s, r, h => by
    obtain ⟨o, _, h⟩ := bind_some (show (f x s).bind _ = some r from h)
    obtain ⟨q, hq, h⟩ := bind_some h
    have ih := compM_len hq
    cases h
    cases o.1 with
    | none => exact Nat.le_succ_of_le ih
    | some y => exact Nat.succ_le_succ ih
def wipeG (Γ : Gm) : List Nat → Gm
  | [] => Γ
  | v :: vs => (wipeG Γ vs).set v none
theorem wipeG_length (Γ : Gm) : ∀ vs : List Nat, (wipeG Γ vs).length = Γ.length
  | [] => rfl
  | v :: vs => by unfold wipeG; rw [List.length_set, wipeG_length Γ vs]
theorem wipe_get {Γ : Gm} {σ : SS} {p : Pd} {i : Nat} : ∀ {vs : List Nat}, (wipeG Γ vs)[i]? = some (some p) → Γ[i]? = some (some p) ∧ (wipe σ vs)[i]? = σ[i]?
  | [], h => ⟨h, rfl⟩
  | v :: vs, h => by
    unfold wipeG at h
    by_cases e : i = v
    · subst e
      by_cases l : i < (wipeG Γ vs).length
      · rw [List.getElem?_set_self l] at h; cases h
      · rw [List.getElem?_eq_none (by rw [List.length_set]; omega)] at h; cases h
    · rw [List.getElem?_set_ne (fun z => e z.symm)] at h
      obtain ⟨h1, h2⟩ := wipe_get h
      refine ⟨h1, ?_⟩
      unfold wipe
      rw [List.getElem?_set_ne (fun z => e z.symm)]
      exact h2
theorem Ok.wipe {F : Fm} {Γ : Gm} {Δ Δ' : Δs} {σ : SS} {H H' : Hp} (k : Ok F Γ Δ σ H) (f : Fzs H H') (h : Hk F Δ' H') (vs : List Nat) : Ok F (wipeG Γ vs) Δ' (L2.wipe σ vs) H' :=
  ⟨h, by rw [wipe_length, wipeG_length]; exact k.len, fun i p e => by
    obtain ⟨e1, e2⟩ := wipe_get (σ := σ) e
    obtain ⟨v, hs, hv⟩ := k.gam i p e1
    exact ⟨v, e2.trans hs, p.mono f hv⟩⟩
theorem Ok.re {F : Fm} {Γ : Gm} {Δ Δ' : Δs} {σ : SS} {H H' : Hp} (k : Ok F Γ Δ σ H) (f : Fzs H H') (h : Hk F Δ' H') : Ok F Γ Δ' σ H' :=
  ⟨h, k.len, fun i p e => by
    obtain ⟨v, hs, hv⟩ := k.gam i p e
    exact ⟨v, hs, p.mono f hv⟩⟩
theorem perm_lift {A B : Δs} (p : A.Perm B) : ∀ {Δ0 : List Cel}, Δ0.map Cel.fg = A → ∃ Δ1 : List Cel, Δ0.Perm Δ1 ∧ Δ1.map Cel.fg = B := by
  induction p with
  | nil => intro Δ0 e; exact ⟨Δ0, List.Perm.refl _, e⟩
  | cons x _ ih =>
    intro Δ0 e
    cases Δ0 with
    | nil => cases e
    | cons y r =>
      rw [List.map_cons] at e
      injection e with e1 e2
      obtain ⟨Δ1, q, e3⟩ := ih e2
      exact ⟨y :: Δ1, q.cons y, by rw [List.map_cons, e3, e1]⟩
  | swap x y l =>
    intro Δ0 e
    cases Δ0 with
    | nil => cases e
    | cons a r =>
      cases r with
      | nil => cases e
      | cons b r =>
        have e' : a.fg = y ∧ b.fg = x ∧ r.map Cel.fg = l := by simpa using e
        exact ⟨b :: a :: r, List.Perm.swap _ _ _, by rw [List.map_cons, List.map_cons, e'.1, e'.2.1, e'.2.2]⟩
  | trans _ _ ih1 ih2 =>
    intro Δ0 e
    obtain ⟨Δ1, q1, e1⟩ := ih1 e
    obtain ⟨Δ2, q2, e2⟩ := ih2 e1
    exact ⟨Δ2, q1.trans q2, e2⟩
theorem Hk.perm {F : Fm} {Δ Δ' : Δs} {H : Hp} (k : Hk F Δ H) (p : Δ.Perm Δ') : Hk F Δ' H := by
  obtain ⟨Δ0, e, k⟩ := k
  obtain ⟨Δ1, q, e1⟩ := perm_lift p e
  exact ⟨Δ1, e1, k.perm q⟩
theorem Hk.cell {F : Fm} {Δ : Δs} {H : Hp} {j : Nat} {c : Cell} (k : Hk F Δ H) (hj : Δ[j]? = some c) : ∃ G, c.d.pr G H c.v ∧ G.Nodup ∧ ∀ H' d', (∀ a o, a ∉ G → H a = some o → H' a = some o) → d'.pr G H' c.v → Hk F (Δ.set j { c with d := d' }) H' ∧ St true H H' := by
  have k2 : Ok F [] Δ [] H := ⟨k, rfl, fun i p e => by cases e⟩
  obtain ⟨G, p, nd, t⟩ := k2.cell hj
  exact ⟨G, p, nd, fun H' d' kp new => ⟨(t H' d' kp new).1.hk, (t H' d' kp new).2⟩⟩
theorem Hk.one {W : Bool} {F : Fm} {Δ : Δs} {H H0 : Hp} {D : Addr} {α : Type} {E : α → Pd} {xs : List α} {Γ : Gm} {σ : SS} (k : Hk F (⟨.ref D, oL E xs, none⟩ :: Δ) H) (n : Nm Γ σ H) (h0 : H0 D = none) : OkN W F Γ H0 (.ref D) (oL E xs) Δ σ H := by
  obtain ⟨Δ0, e, k⟩ := k
  cases Δ0 with
  | nil => cases e
  | cons y r =>
    obtain ⟨yG, yv, yd, yp⟩ := y
    have e' : (⟨yv, yd, yp⟩ : Cell) = ⟨.ref D, oL E xs, none⟩ ∧ r.map Cel.fg = Δ := by simpa [Cel.fg] using e
    obtain ⟨e1, e2⟩ := e'
    cases e1
    obtain ⟨p, vs, eG, ev, _⟩ := k.del _ List.mem_cons_self
    cases ev
    have eG : yG = [D] := eG
    subst eG
    exact ⟨r, [D], e2, k, fun _ a ha => by rw [List.mem_singleton.mp ha]; exact h0, n⟩
def TgtW {α : Type} (g : TG) (Ex : α → Pd) (bd : Gm → α → Gm) (vs : List Nat) : Prop := ∀ (F : Fm) (Γ : Gm) (Δ : Δs) (σ : SS) (H : Hp) (x : α) (v : V) (Q : SS → Hp → Prop), Ok F (wipeG Γ vs) Δ (L2.wipe σ vs) H → (Ex x).pr H v → (∀ σ', L2.wipe σ' vs = L2.wipe σ vs → Ok F (bd (wipeG Γ vs) x) Δ σ' H → Q σ' H) → g v (L2.wipe σ vs) H Q
theorem tw_name {α : Type} {Ex : α → Pd} (i : Nat) : TgtW (gName i) Ex (fun Γ x => Γ.set i (some (Ex x))) [i] := fun _ _ _ σ _ _ _ _ ok hv q => q _ (by
  show ((σ.set i none).set i _).set i none = σ.set i none
  rw [List.set_set, List.set_set]) (ok.set hv)
theorem tw_pair {α β : Type} {E1 : α → Pd} {E2 : β → Pd} {K : PySem.W.Frag} (i j : Nat) (hij : i ≠ j) : TgtW (gTup K 2 (gCons (gName i) (gCons (gName j) gNil))) (pT2 E1 E2) (fun Γ x => (Γ.set i (some (E1 x.1))).set j (some (E2 x.2))) [i, j] :=
  fun _ _ _ σ _ _ _ _ ok ⟨a, u, w, ev, h, p1, p2⟩ q => ⟨a, [u, w], ev, .inl (.inl h), rfl, u, [w], rfl, w, [], rfl, rfl, q _ (by
    show (((((σ.set j none).set i none).set i _).set j _).set j none).set i none = (σ.set j none).set i none
    rw [List.set_set, List.set_set, List.set_comm _ _ hij, List.set_set, List.set_set]) ((ok.set p1).set p2)⟩
section
variable {X : Cx} {W : Bool} {F : Fm} {Γ : Gm} {Δ : Δs} {γ : Type}
abbrev Blk (X : Cx) (scope : Scope) (P : Cx → Prop) : Prop := ∀ (s : Shared) (H : Hp) (C : Addr) (cl : List (Str × Addr)) (fp : List Addr), P (X.blk s H scope (compEnvC scope cl C X.env) fp)
section
variable {α β β2 β3 δ S : Type} {g : TG} {own : List (Str × Nat)} {T : Option γ} {k0 : β → Option γ} {k : β × (List δ × S) → Option γ} {out : β × (List δ × S) → List δ} {Ex : α → Pd} {Ee : δ → Pd} {bd : Gm → α → Gm} {xs : β → List α} {Δ1 : β → Δs} {C : β → S → Δs} {s0 : β → S} {f : β → α → S → Option (Option δ × S)}
    {c : β → α → S → β2 → Bool} {s2 : β → α → S → β2 → S} {T2 : β → α → S → β2 → Option (Option δ × S)} {y : β → α → S → β2 → β3 → δ} {s3 : β → α → S → β2 → β3 → S}
abbrev lcT (W : Bool) (F : Fm) (Γ : Gm) (own : List (Str × Nat)) (bd : Gm → α → Gm) (C : β → S → Δs) (f : β → α → S → Option (Option δ × S)) (c : β → α → S → β2 → Bool) (s2 : β → α → S → β2 → S) (T2 : β → α → S → β2 → Option (Option δ × S)) : TT := fun σ H Q => ∃ d b x s, tTs W F (bd (wipeG Γ (own.map (·.2))) x) (C b s ++ [d]) (f b x s) (fun b2 => if c b x s b2 = true then T2 b x s b2 else some (none, s2 b x s b2)) (c b x s) (fun b2 => C b (s2 b x s b2) ++ [d]) σ H Q
abbrev lcE (W : Bool) (F : Fm) (Γ : Gm) (own : List (Str × Nat)) (bd : Gm → α → Gm) (C : β → S → Δs) (s2 : β → α → S → β2 → S) (T2 : β → α → S → β2 → Option (Option δ × S)) (Ee : δ → Pd) (y : β → α → S → β2 → β3 → δ) (s3 : β → α → S → β2 → β3 → S) : TE := fun σ H Q => ∃ d b x s b2, tE W F (bd (wipeG Γ (own.map (·.2))) x) (C b (s2 b x s b2) ++ [d]) (T2 b x s b2) (fun b3 => some (some (y b x s b2 b3), s3 b x s b2 b3)) (fun b3 => Ee (y b x s b2 b3)) (fun b3 => C b (s3 b x s b2 b3) ++ [d]) σ H Q
theorem lc_imp (hrun : ∀ b g, k0 b = some g → ∃ r, compM (xs b) (s0 b) (f b) = some r ∧ k (b, r) = some g) (hout : ∀ b r, compM (xs b) (s0 b) (f b) = some r → out (b, r) = r.1) (ht : TgtW g Ex bd (own.map (·.2))) (h0 : ∀ b, Δ1 b = C b (s0 b)) :
    ∀ σ H Q, tO W F Γ Δ T k (fun b => oL Ee (out b)) (fun b => C b.1 b.2.2) σ H Q → tLc (tI W F Γ Δ T k0 Ex xs Δ1) g (lcT W F Γ own bd C f c s2 T2) (lcE W F Γ own bd C s2 T2 Ee y s3) (own.map (·.2)) σ H Q :=
  fun σ H Q ⟨ok0, gg, e, q⟩ => ⟨ok0, gg, e, fun b J H1 kb f1 ok1 zl wk D nD => by
    obtain ⟨⟨ys, sf⟩, er, kr⟩ := hrun b gg kb
    have grD : Gr H1 (upd H1 D (.lst [])) := Gr.new nD
    have hk0 : Hk F (C b (s0 b) ++ [⟨.ref D, oL Ee [], none⟩]) (upd H1 D (.lst [])) := by
      rw [← h0 b]
      exact (ok1.newL (W := true) (E := Ee) (xs := []) nD (Nat.zero_le _) .nil).1.ok.hk.perm (List.perm_append_singleton _ _).symm
    refine ⟨fun i m H' => i + m = (xs b).length ∧ St W H1 H' ∧ ∃ s acc ys', Hk F (C b s ++ [⟨.ref D, oL Ee acc, none⟩]) H' ∧ compM ((xs b).drop i) s (f b) = some (ys', sf) ∧ acc ++ ys' = ys, ⟨(xs b).length, Nat.zero_add _, grD.st, s0 b, [], ys, hk0, by rw [List.drop_zero]; exact er, rfl⟩, fun i m H2 ⟨em, st2, s, acc, ys', hk2, ec, ea⟩ => ?_⟩
    by_cases hi : i < (xs b).length
    · obtain ⟨x, hx, ed⟩ := drop_cons hi
      rw [ed] at ec
      obtain ⟨o, eo, ec⟩ := bind_some (show (f b x s).bind _ = some (ys', sf) from ec)
      obtain ⟨r, erc, ec⟩ := bind_some ec
      refine .inr ⟨((wk H2 st2.fz) i).1 hi, fun H' => (i + 1) + (m - 1) = (xs b).length ∧ St W H1 H' ∧ ∃ s acc ys', Hk F (C b s ++ [⟨.ref D, oL Ee acc, none⟩]) H' ∧ compM ((xs b).drop (i + 1)) s (f b) = some (ys', sf) ∧ acc ++ ys' = ys, fun H' h => ⟨m - 1, by omega, h⟩, fun v H3 hy => ?_⟩
      obtain ⟨gr3, pv⟩ := ((wk H2 st2.fz) i).2.2 x v H3 hx hy
      have st3 : St W H1 H3 := st2.trans gr3.st
      refine ht F Γ _ σ H3 x v _ (ok1.wipe st3.fz (hk2.gr gr3) _) pv fun σ4 ew ok4 => ⟨ew, ⟨.ref D, oL Ee acc, none⟩, b, x, s, ok4, o, eo, fun b2 H5 kb2 st5 ok5 => ?_⟩
      try dsimp only at kb2
      cases hcb : c b x s b2 with
      | false =>
        rw [if_neg (by rw [hcb]; exact Bool.false_ne_true)] at kb2
        cases kb2
        cases ec
        exact iteF ⟨by omega, st3.trans st5, s2 b x s b2, acc, r.1, ok5.hk, erc, ea⟩
      | true =>
        rw [if_pos hcb] at kb2
        refine iteT ⟨⟨.ref D, oL Ee acc, none⟩, b, x, s, b2, ok5, o, kb2, fun b3 w H6 kb3 st6 ok6 hw => ?_⟩
        cases kb3
        cases ec
        have hlast : (C b (s3 b x s b2 b3) ++ [⟨.ref D, oL Ee acc, none⟩])[(C b (s3 b x s b2 b3)).length]? = some ⟨.ref D, oL Ee acc, none⟩ := by rw [List.getElem?_append_right (Nat.le_refl _), Nat.sub_self]; rfl
        obtain ⟨G', ⟨D', vs, eG, eD, hD, zD, pD⟩, _, turn⟩ := ok6.hk.cell hlast
        cases eD
        subst eG
        have hlen : acc.length < sizeLine := by
          have l1 := compM_len erc
          have l2 : (acc ++ y b x s b2 b3 :: r.1).length = ys.length := congrArg List.length ea
          have l3 := compM_len er
          rw [List.length_append, List.length_cons] at l2
          have : ys.length ≤ (xs b).length := l3
          omega
        have fzm : Fzs H6 (upd H6 D (.lst (vs ++ [w]))) := Fzs.mut hD fun z => z
        obtain ⟨hk7, st7⟩ := turn (upd H6 D (.lst (vs ++ [w]))) (oL Ee (acc ++ [y b x s b2 b3])) (fun a o na e => by
          rw [upd_ne fun z => na (by rw [z]; exact List.mem_singleton.mpr rfl)]; exact e)
          ⟨D, vs ++ [w], rfl, rfl, upd_same, by rw [List.length_append, List.length_singleton]; omega, paired_app (paired_mono (fun x _ => (Ee x).mono fzm) pD) (.cons ((Ee _).mono fzm hw) .nil)⟩
        refine ⟨vs, hD, by rw [← paired_len pD]; exact hlen, by omega, ⟨((st3.fz.trans st5.fz).trans st6.fz).trans st7.fz, fun hw a o e => ?_, fun a o e => ?_⟩, s3 b x s b2 b3, acc ++ [y b x s b2 b3], r.1, ?_, erc, by rw [List.append_assoc]; exact ea⟩
        · rw [upd_ne (ne_of_none e nD)]
          exact ((st3.trans st5).trans st6).kp hw a o e
        · obtain ⟨u, eu⟩ := ((st3.trans st5).trans st6).dom a o e
          exact upd_dom _ _ a u eu
        · rw [List.set_append_right _ _ (Nat.le_refl _), Nat.sub_self] at hk7
          exact hk7
    · refine .inl ⟨((wk H2 st2.fz) i).2.1 (by omega), ?_⟩
      rw [List.drop_eq_nil_of_le (by omega)] at ec
      have ec : some (([] : List δ), s) = some (ys', sf) := ec
      cases ec
      rw [List.append_nil] at ea
      subst ea
      have hkf := hk2.perm (List.perm_append_singleton _ _)
      rw [show acc = out (b, (acc, _)) from (hout b _ er).symm] at hkf
      exact q (b, (acc, _)) _ H2 kr (f1.trans st2) (hkf.one (ok1.nm.mono st2.fz) (f1.back nD))⟩
theorem x_lc0 {elt tg iter : Expr} {ifs : List Expr} {scope : Scope} {pos : Pos} (nd : X.N.Nodup)
    (hi : PI X tg iter (tI W F Γ Δ T k0 Ex xs Δ1)) (hrun : ∀ b g, k0 b = some g → ∃ r, compM (xs b) (s0 b) (f b) = some r ∧ k (b, r) = some g) (hout : ∀ b r, compM (xs b) (s0 b) (f b) = some r → out (b, r) = r.1) (ok : BlkOk X.N X.env.scope scope own) (hg : Blk X scope fun Y => PG Y tg g) (ht : TgtW g Ex bd (own.map (·.2))) (h0 : ∀ b, Δ1 b = C b (s0 b))
    (hc : ∀ d, Blk X scope fun Y => ∀ b x s, PTs Y ifs (tTs W F (bd (wipeG Γ (own.map (·.2))) x) (C b s ++ [d]) (f b x s) (fun b2 => if c b x s b2 = true then T2 b x s b2 else some (none, s2 b x s b2)) (c b x s) fun b2 => C b (s2 b x s b2) ++ [d]))
    (he : ∀ d, Blk X scope fun Y => ∀ b x s b2, PE Y elt (tE W F (bd (wipeG Γ (own.map (·.2))) x) (C b (s2 b x s b2) ++ [d]) (T2 b x s b2) (fun b3 => some (some (y b x s b2 b3), s3 b x s b2 b3)) (fun b3 => Ee (y b x s b2 b3)) fun b3 => C b (s3 b x s b2 b3) ++ [d]))
    (hcm : X.calm = true := by rfl) (hs : ∀ x, foldedSetIterable iter X.env x = pure x := by intro _; rfl) :
    PE X (.ListComp elt [⟨tg, iter, ifs, 0⟩] scope pos) (tO W F Γ Δ T k (fun b => oL Ee (out b)) fun b => C b.1 b.2.2) :=
  (pe_lc hcm nd hi ok hg (tt := lcT W F Γ own bd C f c s2 T2) (fun s H Cc cl fp => ⟨fun pins s' σ H Q I ⟨d, b, x, s'', h⟩ => (hc d s _ Cc cl fp b x s'').run pins s' σ H Q I h⟩) (te := lcE W F Γ own bd C s2 T2 Ee y s3) (fun s H Cc cl fp => ⟨fun pins s' σ H Q I ⟨d, b, x, s'', b2, h⟩ => (he d s _ Cc cl fp b x s'' b2).run pins s' σ H Q I h⟩) hs).wk (lc_imp hrun hout ht h0)
/-- name = [..] -/
theorem a_lc0 {elt tg iter : Expr} {ifs : List Expr} {scope : Scope} {pos py spos : Pos} {i : Nat} {yv : Str} (nd : X.N.Nodup)
    (hi : PI X tg iter (tI W F Γ Δ T k0 Ex xs Δ1)) (hrun : ∀ b g, k0 b = some g → ∃ r, compM (xs b) (s0 b) (f b) = some r ∧ k (b, r) = some g) (hout : ∀ b r, compM (xs b) (s0 b) (f b) = some r → out (b, r) = r.1) (ok : BlkOk X.N X.env.scope scope own) (hg : Blk X scope fun Y => PG Y tg g) (ht : TgtW g Ex bd (own.map (·.2))) (h0 : ∀ b, Δ1 b = C b (s0 b))
    (hc : ∀ d, Blk X scope fun Y => ∀ b x s, PTs Y ifs (tTs W F (bd (wipeG Γ (own.map (·.2))) x) (C b s ++ [d]) (f b x s) (fun b2 => if c b x s b2 = true then T2 b x s b2 else some (none, s2 b x s b2)) (c b x s) fun b2 => C b (s2 b x s b2) ++ [d]))
    (he : ∀ d, Blk X scope fun Y => ∀ b x s b2, PE Y elt (tE W F (bd (wipeG Γ (own.map (·.2))) x) (C b (s2 b x s b2) ++ [d]) (T2 b x s b2) (fun b3 => some (some (y b x s b2 b3), s3 b x s b2 b3)) (fun b3 => Ee (y b x s b2 b3)) fun b3 => C b (s3 b x s b2 b3) ++ [d]))
    (hsw : swapsWith (.ListComp elt [⟨tg, iter, ifs, 0⟩] scope pos) (some (.Name yv py)) spos.line X.env = pure true) (hy : X.N[i]? = some yv := by rfl) (hyl : X.env.scope.names.lookup yv = some .local := by rfl) (hcm : X.calm = true := by rfl) (hs : ∀ x, foldedSetIterable iter X.env x = pure x := by intro _; rfl) :
    PS X (.Assign [.Name yv py] (.ListComp elt [⟨tg, iter, ifs, 0⟩] scope pos) spos) (tAsg (tO W F Γ Δ T k (fun b => oL Ee (out b)) fun b => C b.1 b.2.2) (gName i)) :=
  (ps_setLc hcm nd hy hyl hsw hi ok hg (tt := lcT W F Γ own bd C f c s2 T2) (fun s H Cc cl fp => ⟨fun pins s' σ H Q I ⟨d, b, x, s'', h⟩ => (hc d s _ Cc cl fp b x s'').run pins s' σ H Q I h⟩) (te := lcE W F Γ own bd C s2 T2 Ee y s3) (fun s H Cc cl fp => ⟨fun pins s' σ H Q I ⟨d, b, x, s'', b2, h⟩ => (he d s _ Cc cl fp b x s'' b2).run pins s' σ H Q I h⟩) hs).wk fun D σ H h => lc_imp hrun hout ht h0 σ H _ h
end
theorem o_drop {β ρ : Type} {e : Expr} {T : Option γ} {k : β → Option γ} {D : β → Od} {Δ' : β → Δs} (h : PE X e (tO W F Γ Δ T (fun b : β × ρ => k b.1) (fun b => D b.1) fun b => Δ' b.1)) : PE X e (tO W F Γ Δ T k D Δ') :=
  h.wk fun σ H Q ⟨ok, g, e, q⟩ => ⟨ok, g, e, fun b v H' kb f ok' => q b.1 v H' kb f ok'⟩
/-- .. with what a turn changes -/
theorem x_lc {elt tg iter : Expr} {ifs : List Expr} {scope : Scope} {own : List (Str × Nat)} {pos : Pos} {g : TG} {α β β2 β3 δ S : Type} {T : Option γ} {k : β × (List δ × S) → Option γ} {Ex : α → Pd} {Ee : δ → Pd} {bd : Gm → α → Gm} {xs : β → List α} {Δ1 : β → Δs} {C : β → S → Δs} {s0 : β → S} {f : β → α → S → Option (Option δ × S)}
    {c : β → α → S → β2 → Bool} {s2 : β → α → S → β2 → S} {T2 : β → α → S → β2 → Option (Option δ × S)} {y : β → α → S → β2 → β3 → δ} {s3 : β → α → S → β2 → β3 → S} (nd : X.N.Nodup)
    (hi : PI X tg iter (tI W F Γ Δ T (fun b => (compM (xs b) (s0 b) (f b)).bind fun r => k (b, r)) Ex xs Δ1)) (ok : BlkOk X.N X.env.scope scope own) (hg : Blk X scope fun Y => PG Y tg g) (ht : TgtW g Ex bd (own.map (·.2))) (h0 : ∀ b, Δ1 b = C b (s0 b))
    (hc : ∀ d, Blk X scope fun Y => ∀ b x s, PTs Y ifs (tTs W F (bd (wipeG Γ (own.map (·.2))) x) (C b s ++ [d]) (f b x s) (fun b2 => if c b x s b2 = true then T2 b x s b2 else some (none, s2 b x s b2)) (c b x s) fun b2 => C b (s2 b x s b2) ++ [d]))
    (he : ∀ d, Blk X scope fun Y => ∀ b x s b2, PE Y elt (tE W F (bd (wipeG Γ (own.map (·.2))) x) (C b (s2 b x s b2) ++ [d]) (T2 b x s b2) (fun b3 => some (some (y b x s b2 b3), s3 b x s b2 b3)) (fun b3 => Ee (y b x s b2 b3)) fun b3 => C b (s3 b x s b2 b3) ++ [d]))
    (hcm : X.calm = true := by rfl) (hs : ∀ x, foldedSetIterable iter X.env x = pure x := by intro _; rfl) :
    PE X (.ListComp elt [⟨tg, iter, ifs, 0⟩] scope pos) (tO W F Γ Δ T k (fun b => oL Ee b.2.1) fun b => C b.1 b.2.2) :=
  x_lc0 (out := fun b => b.2.1) nd hi (fun _ _ h => bind_some h) (fun _ _ _ => rfl) ok hg ht h0 hc he hcm hs
theorem a_lc {elt tg iter : Expr} {ifs : List Expr} {scope : Scope} {own : List (Str × Nat)} {pos py spos : Pos} {i : Nat} {yv : Str} {g : TG} {α β β2 β3 δ S : Type} {T : Option γ} {k : β × (List δ × S) → Option γ} {Ex : α → Pd} {Ee : δ → Pd} {bd : Gm → α → Gm} {xs : β → List α} {Δ1 : β → Δs} {C : β → S → Δs} {s0 : β → S} {f : β → α → S → Option (Option δ × S)}
    {c : β → α → S → β2 → Bool} {s2 : β → α → S → β2 → S} {T2 : β → α → S → β2 → Option (Option δ × S)} {y : β → α → S → β2 → β3 → δ} {s3 : β → α → S → β2 → β3 → S} (nd : X.N.Nodup)
    (hi : PI X tg iter (tI W F Γ Δ T (fun b => (compM (xs b) (s0 b) (f b)).bind fun r => k (b, r)) Ex xs Δ1)) (ok : BlkOk X.N X.env.scope scope own) (hg : Blk X scope fun Y => PG Y tg g) (ht : TgtW g Ex bd (own.map (·.2))) (h0 : ∀ b, Δ1 b = C b (s0 b))
    (hc : ∀ d, Blk X scope fun Y => ∀ b x s, PTs Y ifs (tTs W F (bd (wipeG Γ (own.map (·.2))) x) (C b s ++ [d]) (f b x s) (fun b2 => if c b x s b2 = true then T2 b x s b2 else some (none, s2 b x s b2)) (c b x s) fun b2 => C b (s2 b x s b2) ++ [d]))
    (he : ∀ d, Blk X scope fun Y => ∀ b x s b2, PE Y elt (tE W F (bd (wipeG Γ (own.map (·.2))) x) (C b (s2 b x s b2) ++ [d]) (T2 b x s b2) (fun b3 => some (some (y b x s b2 b3), s3 b x s b2 b3)) (fun b3 => Ee (y b x s b2 b3)) fun b3 => C b (s3 b x s b2 b3) ++ [d]))
    (hsw : swapsWith (.ListComp elt [⟨tg, iter, ifs, 0⟩] scope pos) (some (.Name yv py)) spos.line X.env = pure true) (hy : X.N[i]? = some yv := by rfl) (hyl : X.env.scope.names.lookup yv = some .local := by rfl) (hcm : X.calm = true := by rfl) (hs : ∀ x, foldedSetIterable iter X.env x = pure x := by intro _; rfl) :
    PS X (.Assign [.Name yv py] (.ListComp elt [⟨tg, iter, ifs, 0⟩] scope pos) spos) (tAsg (tO W F Γ Δ T k (fun b => oL Ee b.2.1) fun b => C b.1 b.2.2) (gName i)) :=
  a_lc0 (out := fun b => b.2.1) nd hi (fun _ _ h => bind_some h) (fun _ _ _ => rfl) ok hg ht h0 hc he hsw hy hyl hcm hs
theorem compM_tot {α δ : Type} {c : α → Bool} {y : α → δ} : ∀ xs : List α, compM xs () (fun x _ => if c x = true then some (some (y x), ()) else some (none, ())) = some ((xs.filter c).map y, ())
  | [] => rfl
  | x :: xs => by
    show ((if c x = true then _ else _ : Option (Option δ × Unit)).bind _) = _
    cases h : c x with
    | true =>
      rw [if_pos rfl]
      show ((compM xs () _).bind _) = _
      rw [compM_tot xs, List.filter_cons_of_pos h]
      rfl
    | false =>
      rw [if_neg Bool.false_ne_true]
      show ((compM xs () _).bind _) = _
      rw [compM_tot xs, List.filter_cons_of_neg (by rw [h]; exact Bool.false_ne_true)]
      rfl
/-- .. nothing fails, nothing changes -/
theorem x_lcT {elt tg iter : Expr} {ifs : List Expr} {scope : Scope} {own : List (Str × Nat)} {pos : Pos} {g : TG} {α β δ : Type} {T : Option γ} {k : β → Option γ} {Ex : α → Pd} {Ee : δ → Pd} {bd : Gm → α → Gm} {xs : β → List α} {Δ1 : β → Δs}
    {c : β → α → Bool} {y : β → α → δ} (nd : X.N.Nodup) (hi : PI X tg iter (tI W F Γ Δ T k Ex xs Δ1)) (ok : BlkOk X.N X.env.scope scope own) (hg : Blk X scope fun Y => PG Y tg g) (ht : TgtW g Ex bd (own.map (·.2)))
    (hc : ∀ d, Blk X scope fun Y => ∀ b x, ∀ (γ : Type) (T' : Option γ), PTs Y ifs (tTs W F (bd (wipeG Γ (own.map (·.2))) x) (Δ1 b ++ [d]) T' (fun _ : Unit => T') (fun _ => c b x) fun _ => Δ1 b ++ [d]))
    (he : ∀ d, Blk X scope fun Y => ∀ b x, ∀ (γ : Type) (T' : Option γ), PE Y elt (tE W F (bd (wipeG Γ (own.map (·.2))) x) (Δ1 b ++ [d]) T' (fun _ : Unit => T') (fun _ => Ee (y b x)) fun _ => Δ1 b ++ [d]))
    (hcm : X.calm = true := by rfl) (hs : ∀ x, foldedSetIterable iter X.env x = pure x := by intro _; rfl) :
    PE X (.ListComp elt [⟨tg, iter, ifs, 0⟩] scope pos) (tO W F Γ Δ T k (fun b => oL Ee (((xs b).filter (c b)).map (y b))) Δ1) :=
  o_drop (ρ := List δ × Unit) (x_lc0 (S := Unit) (β2 := Unit) (β3 := Unit) (k := fun b => k b.1) (out := fun b => ((xs b.1).filter (c b.1)).map (y b.1)) (C := fun b _ => Δ1 b) (s0 := fun _ => ()) (c := fun b x _ _ => c b x) (s2 := fun _ _ _ _ => ()) (s3 := fun _ _ _ _ _ => ()) (y := fun b x _ _ _ => y b x)
    (T2 := fun b x _ _ => some (some (y b x), ())) (f := fun b x _ => if c b x = true then some (some (y b x), ()) else some (none, ())) nd hi (fun b g h => ⟨_, compM_tot _, h⟩) (fun b r h => by rw [compM_tot] at h; cases h; rfl) ok hg ht (fun _ => rfl) (fun d s H C cl fp b x _ => hc d s H C cl fp b x _ _) (fun d s H C cl fp b x _ _ => he d s H C cl fp b x _ _) hcm hs)
theorem s_drop {β ρ : Type} {st : Stmt} {i : Nat} {T : Option γ} {k : β → Option γ} {D : β → Od} {Δ' : β → Δs} (h : PS X st (tAsg (tO W F Γ Δ T (fun b : β × ρ => k b.1) (fun b => D b.1) fun b => Δ' b.1) (gName i))) : PS X st (tAsg (tO W F Γ Δ T k D Δ') (gName i)) :=
  h.wk fun D σ H ⟨ok, g, e, q⟩ => ⟨ok, g, e, fun b v H' kb f ok' => q b.1 v H' kb f ok'⟩
theorem a_lcT {elt tg iter : Expr} {ifs : List Expr} {scope : Scope} {own : List (Str × Nat)} {pos py spos : Pos} {i : Nat} {yv : Str} {g : TG} {α β δ : Type} {T : Option γ} {k : β → Option γ} {Ex : α → Pd} {Ee : δ → Pd} {bd : Gm → α → Gm} {xs : β → List α} {Δ1 : β → Δs}
    {c : β → α → Bool} {y : β → α → δ} (nd : X.N.Nodup) (hi : PI X tg iter (tI W F Γ Δ T k Ex xs Δ1)) (ok : BlkOk X.N X.env.scope scope own) (hg : Blk X scope fun Y => PG Y tg g) (ht : TgtW g Ex bd (own.map (·.2)))
    (hc : ∀ d, Blk X scope fun Y => ∀ b x, ∀ (γ : Type) (T' : Option γ), PTs Y ifs (tTs W F (bd (wipeG Γ (own.map (·.2))) x) (Δ1 b ++ [d]) T' (fun _ : Unit => T') (fun _ => c b x) fun _ => Δ1 b ++ [d]))
    (he : ∀ d, Blk X scope fun Y => ∀ b x, ∀ (γ : Type) (T' : Option γ), PE Y elt (tE W F (bd (wipeG Γ (own.map (·.2))) x) (Δ1 b ++ [d]) T' (fun _ : Unit => T') (fun _ => Ee (y b x)) fun _ => Δ1 b ++ [d]))
    (hsw : swapsWith (.ListComp elt [⟨tg, iter, ifs, 0⟩] scope pos) (some (.Name yv py)) spos.line X.env = pure true) (hy : X.N[i]? = some yv := by rfl) (hyl : X.env.scope.names.lookup yv = some .local := by rfl) (hcm : X.calm = true := by rfl) (hs : ∀ x, foldedSetIterable iter X.env x = pure x := by intro _; rfl) :
    PS X (.Assign [.Name yv py] (.ListComp elt [⟨tg, iter, ifs, 0⟩] scope pos) spos) (tAsg (tO W F Γ Δ T k (fun b => oL Ee (((xs b).filter (c b)).map (y b))) Δ1) (gName i)) :=
  s_drop (ρ := List δ × Unit) (a_lc0 (S := Unit) (β2 := Unit) (β3 := Unit) (k := fun b => k b.1) (out := fun b => ((xs b.1).filter (c b.1)).map (y b.1)) (C := fun b _ => Δ1 b) (s0 := fun _ => ()) (c := fun b x _ _ => c b x) (s2 := fun _ _ _ _ => ()) (s3 := fun _ _ _ _ _ => ()) (y := fun b x _ _ _ => y b x)
    (T2 := fun b x _ _ => some (some (y b x), ())) (f := fun b x _ => if c b x = true then some (some (y b x), ()) else some (none, ())) nd hi (fun b g h => ⟨_, compM_tot _, h⟩) (fun b r h => by rw [compM_tot] at h; cases h; rfl) ok hg ht (fun _ => rfl) (fun d s H C cl fp b x _ => hc d s H C cl fp b x _ _) (fun d s H C cl fp b x _ _ => he d s H C cl fp b x _ _) hsw hy hyl hcm hs)
theorem pts_T {Y : Cx} {Γ : Gm} {Δ : Δs} {T : Option γ} : PTs Y [] (tTs W F Γ Δ T (fun _ : Unit => T) (fun _ => true) fun _ => Δ) := ⟨fun pins s σ H Q I ⟨ok, g, e, q⟩ => pts_nil.run pins s σ H Q I (q () H e (St.refl H) ok)⟩
end
end L3
end
section
set_option Elab.async false
set_option linter.all false
set_option maxRecDepth 100000
set_option maxHeartbeats 4000000
namespace L3
open PySem PySem.Spec PyProof.Rows L2
section
variable {X : Cx} {W : Bool} {F : Fm} {Γ : Gm} {Δ : Δs} {γ : Type}
theorem x_is {β : Type} {e : Expr} {T T' : Option γ} {k : β → Option γ} {E : β → Pd} {Δ' : β → Δs} (he : PE X e (tE W F Γ Δ T' k E Δ')) (h : T = T') : PE X e (tE W F Γ Δ T k E Δ') := by rw [h]; exact he
theorem o_is {β : Type} {e : Expr} {T T' : Option γ} {k : β → Option γ} {E : β → Od} {Δ' : β → Δs} (he : PE X e (tO W F Γ Δ T' k E Δ')) (h : T = T') : PE X e (tO W F Γ Δ T k E Δ') := by rw [h]; exact he
/-! ### membership -/
theorem inV_ints (i : Int) : ∀ xs : List Int, inV (.int i) (xs.map V.int) = decide (i ∈ xs)
  | [] => by simp [inV]
  | x :: xs => by
    have ih := inV_ints i xs
    unfold inV at ih ⊢
    rw [List.map_cons, List.any_cons, ih]
    show ((x == i) || decide (i ∈ xs)) = decide (i ∈ x :: xs)
    by_cases h : x = i
    · simp [h]
    · have h2 : ¬ i = x := fun z => h z.symm
      simp [h, h2]
theorem inV_strs (i : Str) : ∀ xs : List Str, inV (.str i) (xs.map V.str) = decide (i ∈ xs)
  | [] => by simp [inV]
  | x :: xs => by
    have ih := inV_strs i xs
    unfold inV at ih ⊢
    rw [List.map_cons, List.any_cons, ih]
    show ((x == i) || decide (i ∈ xs)) = decide (i ∈ x :: xs)
    by_cases h : x = i
    · simp [h]
    · have h2 : ¬ i = x := fun z => h z.symm
      simp [h, h2]
theorem flat_ints : ∀ xs : List Int, (xs.map V.int).all flatV = true
  | [] => rfl
  | _ :: xs => flat_ints xs
theorem flat_strs : ∀ xs : List Str, (xs.map V.str).all flatV = true
  | [] => rfl
  | _ :: xs => flat_strs xs
/-- a flat kind of values: what `in` asks -/
structure Flat {α : Type} [DecidableEq α] (E : α → Pd) where
  mp : α → V
  eq : ∀ {x H v}, (E x).pr H v → v = mp x
  rel : ∀ {x H}, (E x).pr H (mp x)
  fl : ∀ x, flatV (mp x) = true
  one : ∀ x y, eqV (mp x) (mp y) = decide (x = y)
def flInt : Flat pInt := ⟨V.int, fun h => h, rfl, fun _ => rfl, fun x y => by show (x == y) = _; by_cases h : x = y <;> simp [h]⟩
def flStr : Flat pStr := ⟨V.str, fun h => h, rfl, fun _ => rfl, fun x y => by show (x == y) = _; by_cases h : x = y <;> simp [h]⟩
def flBl : Flat pBl := ⟨V.bl, fun h => h, rfl, fun _ => rfl, fun x y => by show (x == y) = _; by_cases h : x = y <;> simp [h]⟩
theorem flat_vals {α : Type} {E : α → Pd} [DecidableEq α] (fl : Flat E) {H : Hp} : ∀ {xs : List α} {vs : List V}, Paired (fun x u => (E x).pr H u) xs vs → vs = xs.map fl.mp
  | _, _, .nil => rfl
  | _, _, .cons r t => by rw [List.map_cons, ← flat_vals fl t, fl.eq r]
theorem flat_in {α : Type} {E : α → Pd} [DecidableEq α] (fl : Flat E) (i : α) : ∀ xs : List α, inV (fl.mp i) (xs.map fl.mp) = decide (i ∈ xs)
  | [] => by simp [inV]
  | x :: xs => by
    have ih := flat_in fl i xs
    unfold inV at ih ⊢
    rw [List.map_cons, List.any_cons, ih, fl.one]
    by_cases h : x = i
    · simp [h]
    · have h2 : ¬ i = x := fun z => h z.symm
      simp [h, h2]
theorem flat_all {α : Type} {E : α → Pd} [DecidableEq α] (fl : Flat E) : ∀ xs : List α, (xs.map fl.mp).all flatV = true
  | [] => rfl
  | x :: xs => by rw [List.map_cons, List.all_cons, fl.fl, flat_all fl xs]; rfl
section
variable {a b : Expr} {pos : Pos} {β1 β2 α : Type} [DecidableEq α] {T : Option γ} {k1 : β1 → Option γ} {k : β1 × β2 → Option γ} {Δ1 : β1 → Δs} {Δ2 : β1 → β2 → Δs} {Ee : α → Pd} {i : β1 → α} {E2 : β1 → β2 → Pd} {xs : β1 → β2 → List α}
theorem v_inL (fl : Flat Ee) {neg : Bool} (rd : ∀ b1 b2, RdL (Δ2 b1 b2) (E2 b1 b2) Ee (xs b1 b2)) : ∀ b1 b2 σ v w H Q, Ok F Γ (Δ2 b1 b2) σ H → (Ee (i b1)).pr H v → (E2 b1 b2).pr H w → (∀ u, (pBl (if neg then !decide (i b1 ∈ xs b1 b2) else decide (i b1 ∈ xs b1 b2))).pr H u → Q u H) → rIn X.K neg v w H Q :=
  fun b1 b2 σ v w H Q ok hv hw q => by
    obtain ⟨p, vs, ev, sq, _, pr⟩ := (rd b1 b2 F H w ok.hk hw).sq (K := X.K)
    have e1 := flat_vals fl pr
    subst e1
    have e2 := fl.eq hv
    subst e2
    refine ⟨p, _, ev, .inl sq, fl.fl _, flat_all fl _, ?_⟩
    rw [flat_in fl]
    exact q _ rfl
theorem x_inL (fl : Flat Ee) (ha : PE X a (tE W F Γ Δ T k1 (fun b => Ee (i b)) Δ1)) (hb : ∀ b1, PE X b (tE W F Γ (Δ1 b1) (k1 b1) (fun b2 => k (b1, b2)) (E2 b1) (Δ2 b1))) (rd : ∀ b1 b2, RdL (Δ2 b1 b2) (E2 b1 b2) Ee (xs b1 b2)) (hm : behindInMarks .In b = false := by rfl) :
    PE X (.Compare a [.In] [b] pos) (tE W F Γ Δ T k (fun b => pBl (decide (i b.1 ∈ xs b.1 b.2))) fun b => Δ2 b.1 b.2) := x2t (b_cmp op_in_seq hm) ha hb (v_inL (neg := false) fl rd)
theorem x_ninL (fl : Flat Ee) (ha : PE X a (tE W F Γ Δ T k1 (fun b => Ee (i b)) Δ1)) (hb : ∀ b1, PE X b (tE W F Γ (Δ1 b1) (k1 b1) (fun b2 => k (b1, b2)) (E2 b1) (Δ2 b1))) (rd : ∀ b1 b2, RdL (Δ2 b1 b2) (E2 b1 b2) Ee (xs b1 b2)) (hm : behindInMarks .NotIn b = false := by rfl) :
    PE X (.Compare a [.NotIn] [b] pos) (tE W F Γ Δ T k (fun b => pBl (!decide (i b.1 ∈ xs b.1 b.2))) fun b => Δ2 b.1 b.2) := x2t (b_cmp op_notIn_seq hm) ha hb (v_inL (neg := true) fl rd)
theorem t_inL (fl : Flat Ee) (ha : PE X a (tE W F Γ Δ T k1 (fun b => Ee (i b)) Δ1)) (hb : ∀ b1, PE X b (tE W F Γ (Δ1 b1) (k1 b1) (fun b2 => k (b1, b2)) (E2 b1) (Δ2 b1))) (rd : ∀ b1 b2, RdL (Δ2 b1 b2) (E2 b1 b2) Ee (xs b1 b2)) (hm : behindInMarks .In b = false := by rfl) :
    PT X (.Compare a [.In] [b] pos) (tTs W F Γ Δ T k (fun b => decide (i b.1 ∈ xs b.1 b.2)) fun b => Δ2 b.1 b.2) := t2t (bt_cmp op_in_seq hm) ha hb (v_inL (neg := false) fl rd)
theorem t_ninL (fl : Flat Ee) (ha : PE X a (tE W F Γ Δ T k1 (fun b => Ee (i b)) Δ1)) (hb : ∀ b1, PE X b (tE W F Γ (Δ1 b1) (k1 b1) (fun b2 => k (b1, b2)) (E2 b1) (Δ2 b1))) (rd : ∀ b1 b2, RdL (Δ2 b1 b2) (E2 b1 b2) Ee (xs b1 b2)) (hm : behindInMarks .NotIn b = false := by rfl) :
    PT X (.Compare a [.NotIn] [b] pos) (tTs W F Γ Δ T k (fun b => !decide (i b.1 ∈ xs b.1 b.2)) fun b => Δ2 b.1 b.2) := t2t (bt_cmp op_notIn_seq hm) ha hb (v_inL (neg := true) fl rd)
/-! equality of flat things -/
theorem v_eqF (fl : Flat Ee) (sc : ∀ x y, scal (fl.mp x) (fl.mp y) = true) (inj : ∀ x y, fl.mp x = fl.mp y → x = y) {j : β1 → β2 → α} : ∀ b1 b2 σ v w H Q, Ok F Γ (Δ2 b1 b2) σ H → (Ee (i b1)).pr H v → (Ee (j b1 b2)).pr H w → (∀ u, (pBl (decide (i b1 = j b1 b2))).pr H u → Q u H) → rEq v w H Q :=
  fun b1 b2 σ v w H Q ok hv hw q => by
    rw [fl.eq hv, fl.eq hw]
    refine ⟨sc _ _, q _ ?_⟩
    show V.bl _ = V.bl _
    congr 1
    by_cases z : i b1 = j b1 b2
    · rw [z]; simp
    · rw [decide_eq_false z, decide_eq_false fun y => z (inj _ _ y)]
theorem v_neF (fl : Flat Ee) (sc : ∀ x y, scal (fl.mp x) (fl.mp y) = true) (inj : ∀ x y, fl.mp x = fl.mp y → x = y) {j : β1 → β2 → α} : ∀ b1 b2 σ v w H Q, Ok F Γ (Δ2 b1 b2) σ H → (Ee (i b1)).pr H v → (Ee (j b1 b2)).pr H w → (∀ u, (pBl (!decide (i b1 = j b1 b2))).pr H u → Q u H) → rNe v w H Q :=
  fun b1 b2 σ v w H Q ok hv hw q => by
    rw [fl.eq hv, fl.eq hw]
    refine ⟨sc _ _, q _ ?_⟩
    show V.bl _ = V.bl _
    congr 1
    by_cases z : i b1 = j b1 b2
    · rw [z]; simp
    · rw [decide_eq_false z, decide_eq_false fun y => z (inj _ _ y)]
end
section
variable {a b : Expr} {pos : Pos} {β1 β2 : Type} {T : Option γ} {k1 : β1 → Option γ} {k : β1 × β2 → Option γ} {Δ1 : β1 → Δs} {Δ2 : β1 → β2 → Δs} {i : β1 → Str} {j : β1 → β2 → Str} {c : β1 → Bool} {d : β1 → β2 → Bool}
theorem x_eqS (ha : PE X a (tE W F Γ Δ T k1 (fun b => pStr (i b)) Δ1)) (hb : ∀ b1, PE X b (tE W F Γ (Δ1 b1) (k1 b1) (fun b2 => k (b1, b2)) (fun b => pStr (j b1 b)) (Δ2 b1))) : PE X (.Compare a [.Eq] [b] pos) (tE W F Γ Δ T k (fun b => pBl (decide (i b.1 = j b.1 b.2))) fun b => Δ2 b.1 b.2) := x2t (b_cmp op_eq (nomark _)) ha hb (v_eqF flStr (fun _ _ => rfl) fun _ _ h => V.str.inj h)
theorem x_neS (ha : PE X a (tE W F Γ Δ T k1 (fun b => pStr (i b)) Δ1)) (hb : ∀ b1, PE X b (tE W F Γ (Δ1 b1) (k1 b1) (fun b2 => k (b1, b2)) (fun b => pStr (j b1 b)) (Δ2 b1))) : PE X (.Compare a [.NotEq] [b] pos) (tE W F Γ Δ T k (fun b => pBl (!decide (i b.1 = j b.1 b.2))) fun b => Δ2 b.1 b.2) := x2t (b_cmp op_ne (nomark _)) ha hb (v_neF flStr (fun _ _ => rfl) fun _ _ h => V.str.inj h)
theorem t_eqS (ha : PE X a (tE W F Γ Δ T k1 (fun b => pStr (i b)) Δ1)) (hb : ∀ b1, PE X b (tE W F Γ (Δ1 b1) (k1 b1) (fun b2 => k (b1, b2)) (fun b => pStr (j b1 b)) (Δ2 b1))) : PT X (.Compare a [.Eq] [b] pos) (tTs W F Γ Δ T k (fun b => decide (i b.1 = j b.1 b.2)) fun b => Δ2 b.1 b.2) := t2t (bt_cmp op_eq (nomark _)) ha hb (v_eqF flStr (fun _ _ => rfl) fun _ _ h => V.str.inj h)
theorem t_neS (ha : PE X a (tE W F Γ Δ T k1 (fun b => pStr (i b)) Δ1)) (hb : ∀ b1, PE X b (tE W F Γ (Δ1 b1) (k1 b1) (fun b2 => k (b1, b2)) (fun b => pStr (j b1 b)) (Δ2 b1))) : PT X (.Compare a [.NotEq] [b] pos) (tTs W F Γ Δ T k (fun b => !decide (i b.1 = j b.1 b.2)) fun b => Δ2 b.1 b.2) := t2t (bt_cmp op_ne (nomark _)) ha hb (v_neF flStr (fun _ _ => rfl) fun _ _ h => V.str.inj h)
theorem x_eqB (ha : PE X a (tE W F Γ Δ T k1 (fun b => pBl (c b)) Δ1)) (hb : ∀ b1, PE X b (tE W F Γ (Δ1 b1) (k1 b1) (fun b2 => k (b1, b2)) (fun b => pBl (d b1 b)) (Δ2 b1))) : PE X (.Compare a [.Eq] [b] pos) (tE W F Γ Δ T k (fun b => pBl (decide (c b.1 = d b.1 b.2))) fun b => Δ2 b.1 b.2) := x2t (b_cmp op_eq (nomark _)) ha hb (v_eqF flBl (fun _ _ => rfl) fun _ _ h => V.bl.inj h)
theorem x_neB (ha : PE X a (tE W F Γ Δ T k1 (fun b => pBl (c b)) Δ1)) (hb : ∀ b1, PE X b (tE W F Γ (Δ1 b1) (k1 b1) (fun b2 => k (b1, b2)) (fun b => pBl (d b1 b)) (Δ2 b1))) : PE X (.Compare a [.NotEq] [b] pos) (tE W F Γ Δ T k (fun b => pBl (!decide (c b.1 = d b.1 b.2))) fun b => Δ2 b.1 b.2) := x2t (b_cmp op_ne (nomark _)) ha hb (v_neF flBl (fun _ _ => rfl) fun _ _ h => V.bl.inj h)
theorem t_eqB (ha : PE X a (tE W F Γ Δ T k1 (fun b => pBl (c b)) Δ1)) (hb : ∀ b1, PE X b (tE W F Γ (Δ1 b1) (k1 b1) (fun b2 => k (b1, b2)) (fun b => pBl (d b1 b)) (Δ2 b1))) : PT X (.Compare a [.Eq] [b] pos) (tTs W F Γ Δ T k (fun b => decide (c b.1 = d b.1 b.2)) fun b => Δ2 b.1 b.2) := t2t (bt_cmp op_eq (nomark _)) ha hb (v_eqF flBl (fun _ _ => rfl) fun _ _ h => V.bl.inj h)
theorem t_neB (ha : PE X a (tE W F Γ Δ T k1 (fun b => pBl (c b)) Δ1)) (hb : ∀ b1, PE X b (tE W F Γ (Δ1 b1) (k1 b1) (fun b2 => k (b1, b2)) (fun b => pBl (d b1 b)) (Δ2 b1))) : PT X (.Compare a [.NotEq] [b] pos) (tTs W F Γ Δ T k (fun b => !decide (c b.1 = d b.1 b.2)) fun b => Δ2 b.1 b.2) := t2t (bt_cmp op_ne (nomark _)) ha hb (v_neF flBl (fun _ _ => rfl) fun _ _ h => V.bl.inj h)
end
/-! ### equality of lists and tuples -/
structure Dt {α : Type} [DecidableEq α] (E : α → Pd) where
  toD : α → PyData
  dp : ∀ {K H v x}, (E x).pr H v → Dp K H v (toD x)
  dep : Nat
  can : ∀ x, (toD x).canLay0 = true
  deep : ∀ x, (toD x).depth ≤ dep
  eq : ∀ x y, PyData.eqv (toD x) (toD y) = decide (x = y)
def dtInt : Dt pInt := ⟨.int, fun h => by rw [h]; exact .int _, 0, fun _ => rfl, fun _ => Nat.le_refl 0, fun x y => by show (x == y) = _; by_cases h : x = y <;> simp [h]⟩
def dtBl : Dt pBl := ⟨.bool, fun h => by rw [h]; exact .bl _, 0, fun _ => rfl, fun _ => Nat.le_refl 0, fun x y => by show (x == y) = _; by_cases h : x = y <;> simp [h]⟩
theorem dp_all {α : Type} {E : α → Pd} [DecidableEq α] (d : Dt E) {K : PySem.W.Frag} {H : Hp} : ∀ {xs : List α} {vs : List V}, Paired (fun x u => (E x).pr H u) xs vs → DpAll K H vs (xs.map d.toD)
  | _, _, .nil => .nil
  | _, _, .cons r t => .cons (d.dp r) (dp_all d t)
theorem can_all {α : Type} {E : α → Pd} [DecidableEq α] (d : Dt E) : ∀ xs : List α, PyData.canLayAll0 (xs.map d.toD) = true
  | [] => rfl
  | x :: xs => by
    show (PyData.canLay0 (d.toD x) && PyData.canLayAll0 (xs.map d.toD)) = true
    rw [d.can, can_all d xs]; rfl
theorem deep_all {α : Type} {E : α → Pd} [DecidableEq α] (d : Dt E) : ∀ xs : List α, PyData.depthAll (xs.map d.toD) ≤ d.dep
  | [] => Nat.zero_le _
  | x :: xs => Nat.max_le.mpr ⟨d.deep x, deep_all d xs⟩
theorem eqv_all {α : Type} {E : α → Pd} [DecidableEq α] (d : Dt E) : ∀ xs ys : List α, PyData.eqvAll (xs.map d.toD) (ys.map d.toD) = decide (xs = ys)
  | [], [] => rfl
  | [], _ :: _ => rfl
  | _ :: _, [] => rfl
  | x :: xs, y :: ys => by
    show (PyData.eqv (d.toD x) (d.toD y) && PyData.eqvAll (xs.map d.toD) (ys.map d.toD)) = _
    rw [d.eq, eqv_all d xs ys]
    by_cases h : x = y <;> by_cases h2 : xs = ys <;> simp [h, h2]
def dtL {α : Type} {E : α → Pd} [DecidableEq α] (d : Dt E) : Dt (pL E) := ⟨fun xs => .list (xs.map d.toD), fun ⟨a, o, vs, e, h, z, p⟩ => by rw [e]; exact .lst (.inl (.inr ⟨o, h⟩)) (dp_all d p), d.dep + 1, fun xs => can_all d xs, fun xs => Nat.succ_le_succ (deep_all d xs), fun xs ys => eqv_all d xs ys⟩
def dtTL {α : Type} {E : α → Pd} [DecidableEq α] (d : Dt E) : Dt (pTL E) := ⟨fun xs => .tuple (xs.map d.toD), fun ⟨a, vs, e, h, z, p⟩ => by rw [e]; exact .tup (.inl (.inl h)) (dp_all d p), d.dep + 1, fun xs => can_all d xs, fun xs => Nat.succ_le_succ (deep_all d xs), fun xs ys => eqv_all d xs ys⟩
section
variable {a b : Expr} {pos : Pos} {β1 β2 α : Type} [DecidableEq α] {T : Option γ} {k1 : β1 → Option γ} {k : β1 × β2 → Option γ} {Δ1 : β1 → Δs} {Δ2 : β1 → β2 → Δs} {Ee : α → Pd} {E1 : β1 → Pd} {E2 : β1 → β2 → Pd} {xs ys : β1 → β2 → List α}
theorem RL.dp {α : Type} {E : α → Pd} [DecidableEq α] (d : Dt E) {xs : List α} {H : Hp} {v : V} {K : PySem.W.Frag} (h : RL E xs H v) : Dp K H v (.list (xs.map d.toD)) := by
  obtain ⟨a, vs, e, sq, z, p⟩ := h.sq (K := K)
  rw [e]
  exact .lst sq (dp_all d p)
theorem shaped_l {α : Type} {E : α → Pd} [DecidableEq α] (d : Dt E) (hd : d.dep < 60) (xs : List α) : SeqAt.shaped (.list (xs.map d.toD)) = true := by
  show (PyData.canLayAll0 (xs.map d.toD) && decide (PyData.depthAll (xs.map d.toD) + 1 ≤ 64)) = true
  rw [can_all d xs, decide_eq_true (by have := deep_all d xs; omega)]; rfl
theorem v_eqL (d : Dt Ee) (hd : d.dep < 60) (r1 : ∀ b1 b2, RdL (Δ2 b1 b2) (E1 b1) Ee (xs b1 b2)) (r2 : ∀ b1 b2, RdL (Δ2 b1 b2) (E2 b1 b2) Ee (ys b1 b2)) : ∀ b1 b2 σ v w H Q, Ok F Γ (Δ2 b1 b2) σ H → (E1 b1).pr H v → (E2 b1 b2).pr H w → (∀ u, (pBl (decide (xs b1 b2 = ys b1 b2))).pr H u → Q u H) → rEqD X.K v w H Q :=
  fun b1 b2 σ v w H Q ok hv hw q => ⟨_, _, (r1 b1 b2 F H v ok.hk hv).dp d, (r2 b1 b2 F H w ok.hk hw).dp d, shaped_l d hd _, shaped_l d hd _, by
    show Q (.bl (PyData.eqvAll _ _)) H
    rw [eqv_all d]
    exact q _ rfl⟩
theorem v_neL (d : Dt Ee) (hd : d.dep < 60) (r1 : ∀ b1 b2, RdL (Δ2 b1 b2) (E1 b1) Ee (xs b1 b2)) (r2 : ∀ b1 b2, RdL (Δ2 b1 b2) (E2 b1 b2) Ee (ys b1 b2)) : ∀ b1 b2 σ v w H Q, Ok F Γ (Δ2 b1 b2) σ H → (E1 b1).pr H v → (E2 b1 b2).pr H w → (∀ u, (pBl (!decide (xs b1 b2 = ys b1 b2))).pr H u → Q u H) → rNeD X.K v w H Q :=
  fun b1 b2 σ v w H Q ok hv hw q => ⟨_, _, (r1 b1 b2 F H v ok.hk hv).dp d, (r2 b1 b2 F H w ok.hk hw).dp d, shaped_l d hd _, shaped_l d hd _, by
    show Q (.bl (!PyData.eqvAll _ _)) H
    rw [eqv_all d]
    exact q _ rfl⟩
theorem x_eqL (hu : X.A.units + 64 < cLine) (d : Dt Ee) (ha : PE X a (tE W F Γ Δ T k1 E1 Δ1)) (hb : ∀ b1, PE X b (tE W F Γ (Δ1 b1) (k1 b1) (fun b2 => k (b1, b2)) (E2 b1) (Δ2 b1))) (r1 : ∀ b1 b2, RdL (Δ2 b1 b2) (E1 b1) Ee (xs b1 b2)) (r2 : ∀ b1 b2, RdL (Δ2 b1 b2) (E2 b1 b2) Ee (ys b1 b2)) (hd : d.dep < 60 := by decide) :
    PE X (.Compare a [.Eq] [b] pos) (tE W F Γ Δ T k (fun b => pBl (decide (xs b.1 b.2 = ys b.1 b.2))) fun b => Δ2 b.1 b.2) := x2t (b_cmp (op_eqD hu) (nomark _)) ha hb (v_eqL d hd r1 r2)
theorem x_neL (hu : X.A.units + 64 < cLine) (d : Dt Ee) (ha : PE X a (tE W F Γ Δ T k1 E1 Δ1)) (hb : ∀ b1, PE X b (tE W F Γ (Δ1 b1) (k1 b1) (fun b2 => k (b1, b2)) (E2 b1) (Δ2 b1))) (r1 : ∀ b1 b2, RdL (Δ2 b1 b2) (E1 b1) Ee (xs b1 b2)) (r2 : ∀ b1 b2, RdL (Δ2 b1 b2) (E2 b1 b2) Ee (ys b1 b2)) (hd : d.dep < 60 := by decide) :
    PE X (.Compare a [.NotEq] [b] pos) (tE W F Γ Δ T k (fun b => pBl (!decide (xs b.1 b.2 = ys b.1 b.2))) fun b => Δ2 b.1 b.2) := x2t (b_cmp (op_neD hu) (nomark _)) ha hb (v_neL d hd r1 r2)
theorem t_eqL (hu : X.A.units + 64 < cLine) (d : Dt Ee) (ha : PE X a (tE W F Γ Δ T k1 E1 Δ1)) (hb : ∀ b1, PE X b (tE W F Γ (Δ1 b1) (k1 b1) (fun b2 => k (b1, b2)) (E2 b1) (Δ2 b1))) (r1 : ∀ b1 b2, RdL (Δ2 b1 b2) (E1 b1) Ee (xs b1 b2)) (r2 : ∀ b1 b2, RdL (Δ2 b1 b2) (E2 b1 b2) Ee (ys b1 b2)) (hd : d.dep < 60 := by decide) :
    PT X (.Compare a [.Eq] [b] pos) (tTs W F Γ Δ T k (fun b => decide (xs b.1 b.2 = ys b.1 b.2)) fun b => Δ2 b.1 b.2) := t2t (bt_cmp (op_eqD hu) (nomark _)) ha hb (v_eqL d hd r1 r2)
theorem t_neL (hu : X.A.units + 64 < cLine) (d : Dt Ee) (ha : PE X a (tE W F Γ Δ T k1 E1 Δ1)) (hb : ∀ b1, PE X b (tE W F Γ (Δ1 b1) (k1 b1) (fun b2 => k (b1, b2)) (E2 b1) (Δ2 b1))) (r1 : ∀ b1 b2, RdL (Δ2 b1 b2) (E1 b1) Ee (xs b1 b2)) (r2 : ∀ b1 b2, RdL (Δ2 b1 b2) (E2 b1 b2) Ee (ys b1 b2)) (hd : d.dep < 60 := by decide) :
    PT X (.Compare a [.NotEq] [b] pos) (tTs W F Γ Δ T k (fun b => !decide (xs b.1 b.2 = ys b.1 b.2)) fun b => Δ2 b.1 b.2) := t2t (bt_cmp (op_neD hu) (nomark _)) ha hb (v_neL d hd r1 r2)
end
end
end L3
end
section
set_option Elab.async false
set_option linter.all false
set_option maxRecDepth 100000
set_option maxHeartbeats 4000000
namespace L3
open PySem PySem.Spec PyProof.Rows L2
def cutL {α : Type} (xs : List α) (lo hi : Option Int) : List α := (xs.drop (HT.sIx xs.length 0 lo)).take (HT.sIx xs.length xs.length hi - HT.sIx xs.length 0 lo)
theorem cutL_len {α : Type} (xs : List α) (lo hi : Option Int) : (cutL xs lo hi).length ≤ xs.length := by
  unfold cutL
  rw [List.length_take, List.length_drop]
  omega
theorem paired_cut {α : Type} {P : α → V → Prop} {xs : List α} {vs : List V} (h : Paired P xs vs) (lo hi : Option Int) : Paired P (cutL xs lo hi) (cutV vs lo hi) := by
  unfold cutL cutV
  rw [← paired_len h]
  exact paired_take _ (paired_drop _ h)
def srt (xs : List Int) : List Int := xs.mergeSort fun a b => decide (a ≤ b)
theorem srt_perm (xs : List Int) : (srt xs).Perm xs := List.mergeSort_perm _ _
theorem srt_le (xs : List Int) : (srt xs).Pairwise (· ≤ ·) := by
  have h := List.pairwise_mergeSort (le := fun a b : Int => decide (a ≤ b)) (fun a b c h1 h2 => by
    have h1 := of_decide_eq_true h1
    have h2 := of_decide_eq_true h2
    exact decide_eq_true (by omega)) (fun a b => by
    by_cases h : a ≤ b
    · simp [h]
    · have : b ≤ a := by omega
      simp [this]) xs
  exact h.imp fun h => of_decide_eq_true h
theorem sorted_eq : ∀ {xs ys : List Int}, xs.Perm ys → xs.Pairwise (· ≤ ·) → ys.Pairwise (· ≤ ·) → xs = ys
  | [], ys, p, _, _ => (List.nil_perm.mp p).symm ▸ rfl
  | x :: xs, [], p, _, _ => (List.perm_nil.mp p)
  | x :: xs, y :: ys, p, hx, hy => by
    have e : x = y := by
      have m1 : x ∈ y :: ys := p.mem_iff.mp List.mem_cons_self
      have m2 : y ∈ x :: xs := p.mem_iff.mpr List.mem_cons_self
      have l1 : y ≤ x := by
        rcases List.mem_cons.mp m1 with h | h
        · omega
        · exact (List.pairwise_cons.mp hy).1 x h
      have l2 : x ≤ y := by
        rcases List.mem_cons.mp m2 with h | h
        · omega
        · exact (List.pairwise_cons.mp hx).1 y h
      omega
    subst e
    rw [sorted_eq (List.Perm.cons_inv p) (List.pairwise_cons.mp hx).2 (List.pairwise_cons.mp hy).2]
theorem srt_uniq {xs ys : List Int} (p : ys.Perm xs) (h : ys.Pairwise (· ≤ ·)) : ys = srt xs := sorted_eq (p.trans (srt_perm xs).symm) h (srt_le xs)
section
variable {X : Cx} {W : Bool} {F : Fm} {Γ : Gm} {Δ : Δs} {γ : Type}
/-! ### slices -/
def tPo {β γ : Type} (W : Bool) (F : Fm) (Γ : Gm) (Δ : Δs) (T : Option γ) (k : β → Option γ) (o : β → Option Int) (Δ' : β → Δs) : TO := fun σ H Q =>
  Ok F Γ Δ σ H ∧ ∃ g, T = some g ∧ ∀ b H', k b = some g → St W H H' → Ok F Γ (Δ' b) σ H' → Q (o b) H'
theorem _root_.L2.PO.wk {e : Option Expr} {t t' : TO} (h : PO X e t) (w : ∀ σ H Q, t' σ H Q → t σ H Q) : PO X e t' := ⟨fun pins s σ H Q I q => h.run pins s σ H Q I (w σ H Q q)⟩
theorem po_ex {β : Type} {e : Option Expr} {t : β → TO} (h : ∀ b, PO X e (t b)) : PO X e (fun σ H Q => ∃ b, t b σ H Q) := ⟨fun pins s σ H Q I ⟨b, q⟩ => (h b).run pins s σ H Q I q⟩
theorem p_none {k : Unit → Option γ} : PO X none (tPo W F Γ Δ (k ()) k (fun _ => none) fun _ => Δ) := po_none.wk fun σ H Q ⟨ok, g, e, q⟩ => q () H e (St.refl H) ok
theorem p_some {e : Expr} {β : Type} {T : Option γ} {k : β → Option γ} {i : β → Int} {Δ' : β → Δs} (he : PE X e (tE W F Γ Δ T k (fun b => pInt (i b)) Δ')) : PO X (some e) (tPo W F Γ Δ T k (fun b => some (i b)) Δ') :=
  (po_some he).wk fun σ H Q ⟨ok, g, e, q⟩ => ⟨ok, g, e, fun b v H' kb f ok' hv => ⟨i b, hv, q b H' kb f ok'⟩⟩
section
variable {a : Expr} {lo hi : Option Expr} {p2 pos : Pos} {β1 β2 β3 α : Type} {T : Option γ} {k1 : β1 → Option γ} {k2 : β1 → β2 → Option γ} {k : β1 × β2 × β3 → Option γ} {E1 : β1 → Pd} {Ee : α → Pd} {xs : β1 → β2 → β3 → List α} {o1 : β1 → β2 → Option Int} {o2 : β1 → β2 → β3 → Option Int} {Δ1 : β1 → Δs} {Δ2 : β1 → β2 → Δs} {Δ3 : β1 → β2 → β3 → Δs}
theorem x_slL (ha : PE X a (tE W F Γ Δ T k1 E1 Δ1)) (hl : ∀ b1, PO X lo (tPo W F Γ (Δ1 b1) (k1 b1) (k2 b1) (o1 b1) (Δ2 b1))) (hh : ∀ b1 b2, PO X hi (tPo W F Γ (Δ2 b1 b2) (k2 b1 b2) (fun b3 => k (b1, b2, b3)) (o2 b1 b2) (Δ3 b1 b2))) (rd : ∀ b1 b2 b3, RdL (Δ3 b1 b2 b3) (E1 b1) Ee (xs b1 b2 b3)) :
    PE X (.Subscript a (.Slice lo hi none p2) pos) (tO W F Γ Δ T k (fun b => oL Ee (cutL (xs b.1 b.2.1 b.2.2) (o1 b.1 b.2.1) (o2 b.1 b.2.1 b.2.2))) fun b => Δ3 b.1 b.2.1 b.2.2) :=
  (pe_slice sl_list ha (po_ex hl) (po_ex fun b1 => po_ex fun b2 => hh b1 b2)).wk fun σ H Q ⟨ok, g, e, q⟩ => ⟨ok, g, e, fun b1 v H1 kb1 f1 ok1 hv => ⟨b1, ok1, g, kb1, fun b2 H2 kb2 f2 ok2 => ⟨b1, b2, ok2, g, kb2, fun b3 H3 kb3 f3 ok3 => by
    obtain ⟨p, vs, ev, sq, z, pr⟩ := (rd b1 b2 b3 F H3 v ok3.hk ((E1 b1).mono (f2.fz.trans f3.fz) hv)).sq (K := X.K)
    refine ⟨p, vs, ev, sq, fun n nn => ?_⟩
    have st := (f1.trans f2).trans f3
    obtain ⟨o, g'⟩ := ok3.newL nn (Nat.le_trans (cutL_len _ _ _) z) (paired_cut pr (o1 b1 b2) (o2 b1 b2 b3))
    exact q (b1, b2, b3) _ _ kb3 (st.trans g'.st) (o.since st)⟩⟩⟩
theorem x_slS {z : β1 → Str} (ha : PE X a (tE W F Γ Δ T k1 (fun b => pStr (z b)) Δ1)) (hl : ∀ b1, PO X lo (tPo W F Γ (Δ1 b1) (k1 b1) (k2 b1) (o1 b1) (Δ2 b1))) (hh : ∀ b1 b2, PO X hi (tPo W F Γ (Δ2 b1 b2) (k2 b1 b2) (fun b3 => grd ((z b1).length ≤ sizeLine) (k (b1, b2, b3))) (o2 b1 b2) (Δ3 b1 b2))) :
    PE X (.Subscript a (.Slice lo hi none p2) pos) (tE W F Γ Δ T k (fun b => pStr (cutS (z b.1) (o1 b.1 b.2.1) (o2 b.1 b.2.1 b.2.2))) fun b => Δ3 b.1 b.2.1 b.2.2) :=
  (pe_slice sl_str ha (po_ex hl) (po_ex fun b1 => po_ex fun b2 => hh b1 b2)).wk fun σ H Q ⟨ok, g, e, q⟩ => ⟨ok, g, e, fun b1 v H1 kb1 f1 ok1 hv => ⟨b1, ok1, g, kb1, fun b2 H2 kb2 f2 ok2 => ⟨b1, b2, ok2, g, kb2, fun b3 H3 kb3 f3 ok3 => by
    obtain ⟨c, kb⟩ := grd_some kb3
    exact ⟨z b1, hv, c, q (b1, b2, b3) _ H3 kb ((f1.trans f2).trans f3) ok3 rfl⟩⟩⟩⟩
end
section
variable {a : Expr} {β α : Type} {T : Option γ} {k : β → Option γ} {E1 : β → Pd} {Ee : α → Pd} {xs : β → List α} {Δ1 : β → Δs}
/-- xs[::-1] -/
theorem x_rev {n : Nat} {p1 p2 p3 pos : Pos} (ha : PE X a (tE W F Γ Δ T k E1 Δ1)) (rd : ∀ b, RdL (Δ1 b) (E1 b) Ee (xs b)) : PE X (.Subscript a (.Slice none none (some (.UnaryOp .USub (.Constant (.int 1) n p1) p2)) p3) pos) (tO W F Γ Δ T k (fun b => oL Ee (xs b).reverse) Δ1) :=
  (pe_revL ha).wk fun σ H Q ⟨ok, g, e, q⟩ => ⟨ok, g, e, fun b v H1 kb f ok1 hv => by
    obtain ⟨p, vs, ev, sq, z, pr⟩ := (rd b F H1 v ok1.hk hv).sq (K := X.K)
    refine ⟨p, vs, ev, sq, fun n nn => ?_⟩
    obtain ⟨o, g'⟩ := ok1.newL nn (by rw [List.length_reverse]; exact z) (paired_rev pr)
    exact q b _ _ kb (f.trans g'.st) (o.since f)⟩
/-! sorted(xs), all(xs), any(xs), sum(xs) -/
variable {p pos : Pos}
theorem x_sortedI {xs : β → List Int} (hm : X.mg "sorted" = none) (ha : PE X a (tE W F Γ Δ T k E1 Δ1)) (rd : ∀ b, RdL (Δ1 b) (E1 b) pInt (xs b)) (hg : Gl X "sorted" := by rfl) (hs : starEach [a] X.env = (false, eval a X.env) :: starEach [] X.env := by rfl) : PE X (.Call (.Name "sorted" p) [a] [] pos) (tO W F Γ Δ T k (fun b => oL pInt (srt (xs b))) Δ1) :=
  x1n (u_callB cr_sortedI hg hm (by decide +kernel) (by decide) (by decide) hs) ha fun b σ v H Q ok hv q => by
    obtain ⟨p, vs, ev, sq, z, pr⟩ := (rd b F H v ok.hk hv).sq (K := X.K)
    have e := paired_ints pr
    subst e
    rw [ev]
    refine ⟨p, xs b, rfl, sq, fun ns' l pm so hl => ?_⟩
    have e := srt_uniq pm so
    subst e
    exact q l _ hl (by rw [(srt_perm _).length_eq]; exact z) (ints_paired _)
theorem x_all {xs : β → List Bool} (hm : X.mg "all" = none) (ha : PE X a (tE W F Γ Δ T k E1 Δ1)) (rd : ∀ b, RdL (Δ1 b) (E1 b) pBl (xs b)) (hg : Gl X "all" := by rfl) (hs : starEach [a] X.env = (false, eval a X.env) :: starEach [] X.env := by rfl) (hc : X.calm = true := by rfl) : PE X (.Call (.Name "all" p) [a] [] pos) (tE W F Γ Δ T k (fun b => pBl ((xs b).all id)) Δ1) :=
  x1t (u_callB (cr_all hc) hg hm (by decide +kernel) (by decide) (by decide) hs) ha fun b σ v H Q ok hv q => by
    obtain ⟨p, vs, ev, sq, z, pr⟩ := (rd b F H v ok.hk hv).sq (K := X.K)
    have e := paired_bls pr
    subst e
    rw [ev]
    exact ⟨p, xs b, rfl, sq, q _ rfl⟩
theorem x_any {xs : β → List Bool} (hm : X.mg "any" = none) (ha : PE X a (tE W F Γ Δ T k E1 Δ1)) (rd : ∀ b, RdL (Δ1 b) (E1 b) pBl (xs b)) (hg : Gl X "any" := by rfl) (hs : starEach [a] X.env = (false, eval a X.env) :: starEach [] X.env := by rfl) (hc : X.calm = true := by rfl) : PE X (.Call (.Name "any" p) [a] [] pos) (tE W F Γ Δ T k (fun b => pBl ((xs b).any id)) Δ1) :=
  x1t (u_callB (cr_any hc) hg hm (by decide +kernel) (by decide) (by decide) hs) ha fun b σ v H Q ok hv q => by
    obtain ⟨p, vs, ev, sq, z, pr⟩ := (rd b F H v ok.hk hv).sq (K := X.K)
    have e := paired_bls pr
    subst e
    rw [ev]
    exact ⟨p, xs b, rfl, sq, q _ rfl⟩
theorem x_sum {xs : β → List Int} (hm : X.mg "sum" = none) (ha : PE X a (tE W F Γ Δ T k E1 Δ1)) (rd : ∀ b, RdL (Δ1 b) (E1 b) pInt (xs b)) (hg : Gl X "sum" := by rfl) (hs : starEach [a] X.env = (false, eval a X.env) :: starEach [] X.env := by rfl) (hc : X.calm = true := by rfl) : PE X (.Call (.Name "sum" p) [a] [] pos) (tE W F Γ Δ T k (fun b => pInt (xs b).sum) Δ1) :=
  x1t (u_callB (cr_sum hc) hg hm (by decide +kernel) (by decide) (by decide) hs) ha fun b σ v H Q ok hv q => by
    obtain ⟨p, vs, ev, sq, z, pr⟩ := (rd b F H v ok.hk hv).sq (K := X.K)
    have e := paired_ints pr
    subst e
    rw [ev]
    exact ⟨p, xs b, rfl, sq, q _ rfl⟩
end
/-! ### tuples by place -/
section
variable {a : Expr} {i : Int} {n : Nat} {p pos : Pos} {β α1 α2 α3 : Type} {T : Option γ} {k : β → Option γ} {A : α1 → Pd} {B : α2 → Pd} {C : α3 → Pd} {Δ1 : β → Δs}
theorem x_fst {x : β → α1 × α2} (ha : PE X a (tE W F Γ Δ T k (fun b => pT2 A B (x b)) Δ1)) : PE X (.Subscript a (.Constant (.int 0) n p) pos) (tE W F Γ Δ T k (fun b => A (x b).1) Δ1) :=
  (pe_ix ix_tup ha pe_int (fun _ _ => rfl)).wk fun σ H Q ⟨ok, g, e, q⟩ => ⟨ok, g, e, fun b v H1 kb f ok1 ⟨t, u, w, ev, h, p1, p2⟩ => ⟨t, [u, w], 0, u, ev, rfl, .inl (.inl h), rfl, q b u H1 kb f ok1 p1⟩⟩
theorem x_snd {x : β → α1 × α2} (ha : PE X a (tE W F Γ Δ T k (fun b => pT2 A B (x b)) Δ1)) : PE X (.Subscript a (.Constant (.int 1) n p) pos) (tE W F Γ Δ T k (fun b => B (x b).2) Δ1) :=
  (pe_ix ix_tup ha pe_int (fun _ _ => rfl)).wk fun σ H Q ⟨ok, g, e, q⟩ => ⟨ok, g, e, fun b v H1 kb f ok1 ⟨t, u, w, ev, h, p1, p2⟩ => ⟨t, [u, w], 1, w, ev, rfl, .inl (.inl h), rfl, q b w H1 kb f ok1 p2⟩⟩
theorem x_t30 {x : β → α1 × α2 × α3} (ha : PE X a (tE W F Γ Δ T k (fun b => pT3 A B C (x b)) Δ1)) : PE X (.Subscript a (.Constant (.int 0) n p) pos) (tE W F Γ Δ T k (fun b => A (x b).1) Δ1) :=
  (pe_ix ix_tup ha pe_int (fun _ _ => rfl)).wk fun σ H Q ⟨ok, g, e, q⟩ => ⟨ok, g, e, fun b v H1 kb f ok1 ⟨t, u, w, z, ev, h, p1, p2, p3⟩ => ⟨t, [u, w, z], 0, u, ev, rfl, .inl (.inl h), rfl, q b u H1 kb f ok1 p1⟩⟩
theorem x_t31 {x : β → α1 × α2 × α3} (ha : PE X a (tE W F Γ Δ T k (fun b => pT3 A B C (x b)) Δ1)) : PE X (.Subscript a (.Constant (.int 1) n p) pos) (tE W F Γ Δ T k (fun b => B (x b).2.1) Δ1) :=
  (pe_ix ix_tup ha pe_int (fun _ _ => rfl)).wk fun σ H Q ⟨ok, g, e, q⟩ => ⟨ok, g, e, fun b v H1 kb f ok1 ⟨t, u, w, z, ev, h, p1, p2, p3⟩ => ⟨t, [u, w, z], 1, w, ev, rfl, .inl (.inl h), rfl, q b w H1 kb f ok1 p2⟩⟩
theorem x_t32 {x : β → α1 × α2 × α3} (ha : PE X a (tE W F Γ Δ T k (fun b => pT3 A B C (x b)) Δ1)) : PE X (.Subscript a (.Constant (.int 2) n p) pos) (tE W F Γ Δ T k (fun b => C (x b).2.2) Δ1) :=
  (pe_ix ix_tup ha pe_int (fun _ _ => rfl)).wk fun σ H Q ⟨ok, g, e, q⟩ => ⟨ok, g, e, fun b v H1 kb f ok1 ⟨t, u, w, z, ev, h, p1, p2, p3⟩ => ⟨t, [u, w, z], 2, z, ev, rfl, .inl (.inl h), rfl, q b z H1 kb f ok1 p3⟩⟩
end
/-! ### xs + ys -/
def rCatR (K : PySem.W.Frag) : R2 := fun x y H Q => ∃ l b xs zs, x = .ref l ∧ y = .ref b ∧ Rd H l (.lst xs) ∧ Rd H b (.lst zs) ∧ xs.length + zs.length ≤ sizeLine ∧ ∀ p, H p = none → Q (.ref p) (upd H p (.lst (xs ++ zs)))
theorem op_catR : OpR X (binaryOp .Add) (rCatR X.K) := fun pins s σ H x y v u Q I rx ry ⟨l, b, xs, zs, ex, ey, hl, hb, hz, q⟩ => by
  subst ex ey
  have e1 : v = Value.ref l := rx
  have e2 : u = Value.ref b := ry
  subst e1 e2
  obtain ⟨z1, i1, n1, r1, g1⟩ := (show ObjOk X.prog X.w H s.heap l (.lst xs) from hl.ok I.hok)
  obtain ⟨z2, i2, n2, r2, g2⟩ := (show ObjOk X.prog X.w H s.heap b (.lst zs) from hb.ok I.hok)
  have l1 := r1.length
  have l2 := r2.length
  refine PySem.P.add_list g1 g2 ?_ (by simp only [List.size_toArray]; omega)
  rw [show i1.toArray ++ i2.toArray = (i1 ++ i2).toArray by simp]
  exact ⟨.ref _, _, I.lnew (t' := s.toks) (r1.append r2) (by simp only [List.length_append]; omega), rfl, q _ I.fresh⟩
section
variable {a b : Expr} {pos : Pos} {β1 β2 α : Type} {T : Option γ} {k1 : β1 → Option γ} {k : β1 × β2 → Option γ} {Δ1 : β1 → Δs} {Δ2 : β1 → β2 → Δs} {Ee : α → Pd} {E1 : β1 → Pd} {E2 : β1 → β2 → Pd} {xs ys : β1 → β2 → List α}
theorem x_cat (ha : PE X a (tE W F Γ Δ T k1 E1 Δ1)) (hb : ∀ b1, PE X b (tE W F Γ (Δ1 b1) (k1 b1) (fun b2 => grd ((xs b1 b2).length + (ys b1 b2).length ≤ sizeLine) (k (b1, b2))) (E2 b1) (Δ2 b1))) (r1 : ∀ b1 b2, RdL (Δ2 b1 b2) (E1 b1) Ee (xs b1 b2)) (r2 : ∀ b1 b2, RdL (Δ2 b1 b2) (E2 b1 b2) Ee (ys b1 b2)) :
    PE X (.BinOp a .Add b pos) (tO W F Γ Δ T k (fun b => oL Ee (xs b.1 b.2 ++ ys b.1 b.2)) fun b => Δ2 b.1 b.2) :=
  x2_core (b_op op_catR) ha hb fun σ H Q ⟨ok, g, e, q⟩ => ⟨ok, g, e, fun b1 b2 v w H2 kb f ok2 hv hw => by
    obtain ⟨c, kb⟩ := grd_some kb
    obtain ⟨l, vs, ev, rv, zv, pv⟩ := r1 b1 b2 F H2 v ok2.hk hv
    obtain ⟨m, ws, ew, rw', zw, pw⟩ := r2 b1 b2 F H2 w ok2.hk hw
    refine ⟨l, m, vs, ws, ev, ew, rv, rw', by rw [← paired_len pv, ← paired_len pw]; exact c, fun n nn => ?_⟩
    obtain ⟨o, g'⟩ := ok2.newL nn (by rw [List.length_append]; exact c) (paired_app pv pw)
    exact q (b1, b2) _ _ kb (f.trans g'.st) (o.since f)⟩
end
/-! ### xs.append(e) -/
section
variable {o e : Expr} {apos cpos : Pos} {β1 β2 α : Type} {T : Option γ} {k1 : β1 → Option γ} {k : β1 × β2 → Option γ} {Δ1 : β1 → Δs} {Δ2 : β1 → β2 → Δs} {Ee : α → Pd} {xs : β1 → β2 → List α} {y : β1 → β2 → α} {v : V} {prm : Option Nat}
theorem x_app (j : Nat) (ho : PE X o (tE true F Γ Δ T k1 (fun _ => pV v) Δ1)) (he : ∀ b1, PE X e (tE true F Γ (Δ1 b1) (k1 b1) (fun b2 => grd ((xs b1 b2).length < sizeLine) (k (b1, b2))) (fun b2 => Ee (y b1 b2)) (Δ2 b1))) {xs0 : β1 → List α} {prm0 : Option Nat} (hj0 : ∀ b1, (Δ1 b1)[j]? = some ⟨v, oL Ee (xs0 b1), prm0⟩)
    (hj : ∀ b1 b2, (Δ2 b1 b2)[j]? = some ⟨v, oL Ee (xs b1 b2), prm⟩)
    (hbase : attributeBase o "append" X.env (eval o X.env) = eval o X.env := by rfl) (hline : (apos.endLine == cpos.line) = true := by rfl) (hs : starEach [e] X.env = (false, eval e X.env) :: starEach [] X.env := by rfl)
    (hfew : ((backTo cpos (starEach [e] X.env)).all (fun x => !x.1) && (backToKw cpos (keywordEach [] X.env)).all (fun x => x.1.isSome) && decide ([e].length + ([] : List Keyword).length + (if ([] : List Keyword).isEmpty then 0 else 1) < 30)) = true := by rfl) :
    PE X (.Call (.Attribute o "append" apos) [e] [] cpos) (tE true F Γ Δ T k (fun _ => pNon) fun b => (Δ2 b.1 b.2).set j ⟨v, oL Ee (xs b.1 b.2 ++ [y b.1 b.2]), prm⟩) :=
  (pe_bm PySem.F.plainAttrs_list PySem.F.slot_list_append PySem.F.type_list_append mt_append ho (pa_cons (pe_ex he) pa_nil hs) hbase hfew hline hs).wk fun σ H Q ⟨ok, g, e, q⟩ => ⟨ok, g, e, fun b1 u H1 kb1 f1 ok1 hu => by
    have hu : u = v := hu
    subst hu
    obtain ⟨_, p0, vs0, _, ev0, hp0, _, _⟩ := ok1.hk.at (hj0 b1)
    have ev0 : u = .ref p0 := ev0
    refine ⟨by rw [ev0]; exact .inl ⟨rfl, vs0, .inl (.inl hp0)⟩, b1, ok1, g, kb1, fun b2 w H2 kb2 f2 ok2 hw => ?_⟩
    obtain ⟨c, kb⟩ := grd_some kb2
    obtain ⟨G, ⟨p, vs, eG, ev, hp, z, pr⟩, _, turn⟩ := ok2.cell (hj b1 b2)
    have fzm : Fzs H2 (upd H2 p (.lst (vs ++ [w]))) := Fzs.mut hp fun z => z
    obtain ⟨ok3, f3⟩ := turn (upd H2 p (.lst (vs ++ [w]))) (oL Ee (xs b1 b2 ++ [y b1 b2])) (fun a o na e => by
      rw [upd_ne fun z => na (by rw [eG, z]; exact List.mem_singleton.mpr rfl)]; exact e)
      ⟨p, vs ++ [w], eG, ev, upd_same, by rw [List.length_append, List.length_singleton]; omega, paired_app (paired_mono (fun x _ => (Ee x).mono fzm) pr) (.cons ((Ee _).mono fzm hw) .nil)⟩
    exact ⟨p, vs, w, ev, rfl, hp, by rw [← paired_len pr]; exact c, q (b1, b2) .non _ kb ((f1.trans f2).trans f3) ok3 rfl⟩⟩
end
/-! ### None, isinstance -/
section
variable {a : Expr} {pos p : Pos} {j : Nat} {β α : Type} {T : Option γ} {k : β → Option γ} {Ee : α → Pd} {x : β → Option α} {Δ1 : β → Δs}
def NotNon {α : Type} (E : α → Pd) : Prop := ∀ x H v, (E x).pr H v → v ≠ .non
theorem nnInt : NotNon pInt := fun _ _ _ h z => by rw [h] at z; cases z
theorem nnStr : NotNon pStr := fun _ _ _ h z => by rw [h] at z; cases z
theorem nnL {α : Type} {E : α → Pd} : NotNon (pL E) := fun _ _ _ ⟨_, _, _, h, _⟩ z => by rw [h] at z; cases z
theorem nnD {α : Type} {E : α → Pd} : NotNon (pD E) := fun _ _ _ ⟨_, _, _, h, _⟩ z => by rw [h] at z; cases z
theorem opt_non {α : Type} {E : α → Pd} (nn : NotNon E) : ∀ {x : Option α} {H : Hp} {v : V}, (pOp E x).pr H v → decide (v = .non) = x.isNone
  | none, _, _, h => by rw [show _ = V.non from h]; rfl
  | some x, _, _, h => decide_eq_false (nn x _ _ h)
theorem x_isN (nn : NotNon Ee) (ha : PE X a (tE W F Γ Δ T k (fun b => pOp Ee (x b)) Δ1)) : PE X (.Compare a [.Is] [.Constant .none j p] pos) (tE W F Γ Δ T k (fun b => pBl (x b).isNone) Δ1) :=
  (pe_cmpR op_isN ha pe_non (nomark _)).wk fun σ H Q ⟨ok, g, e, q⟩ => ⟨ok, g, e, fun b v H1 kb f ok1 hv => ⟨rfl, by rw [opt_non nn hv]; exact q b _ H1 kb f ok1 rfl⟩⟩
theorem x_notN (nn : NotNon Ee) (ha : PE X a (tE W F Γ Δ T k (fun b => pOp Ee (x b)) Δ1)) : PE X (.Compare a [.IsNot] [.Constant .none j p] pos) (tE W F Γ Δ T k (fun b => pBl (!(x b).isNone)) Δ1) :=
  (pe_cmpR op_notN ha pe_non (nomark _)).wk fun σ H Q ⟨ok, g, e, q⟩ => ⟨ok, g, e, fun b v H1 kb f ok1 hv => ⟨rfl, by rw [opt_non nn hv]; exact q b _ H1 kb f ok1 rfl⟩⟩
theorem t_isN (nn : NotNon Ee) (ha : PE X a (tE W F Γ Δ T k (fun b => pOp Ee (x b)) Δ1)) : PT X (.Compare a [.Is] [.Constant .none j p] pos) (tTs W F Γ Δ T k (fun b => (x b).isNone) Δ1) :=
  (pt_cmpR op_isN ha pe_non (nomark _)).wk fun σ H Q ⟨ok, g, e, q⟩ => ⟨ok, g, e, fun b v H1 kb f ok1 hv => ⟨rfl, _, rfl, by rw [opt_non nn hv]; exact q b H1 kb f ok1⟩⟩
theorem t_notN (nn : NotNon Ee) (ha : PE X a (tE W F Γ Δ T k (fun b => pOp Ee (x b)) Δ1)) : PT X (.Compare a [.IsNot] [.Constant .none j p] pos) (tTs W F Γ Δ T k (fun b => !(x b).isNone) Δ1) :=
  (pt_cmpR op_notN ha pe_non (nomark _)).wk fun σ H Q ⟨ok, g, e, q⟩ => ⟨ok, g, e, fun b v H1 kb f ok1 hv => ⟨rfl, _, rfl, by rw [opt_non nn hv]; exact q b H1 kb f ok1⟩⟩
/-- what type a value of a kind has -/
def TyP (Δ : Δs) (p : Pd) (t : String) : Prop := ∀ K F H v, Hk F Δ H → p.pr H v → TyX K H v (.type t)
theorem tyInt {i : Int} : TyP Δ (pInt i) "int" := fun _ _ _ _ _ h => by rw [h]; exact .base (.int _)
theorem tyBl {i : Bool} : TyP Δ (pBl i) "bool" := fun _ _ _ _ _ h => by rw [h]; exact .base (.bl _)
theorem tyStr {i : Str} : TyP Δ (pStr i) "str" := fun _ _ _ _ _ h => by rw [h]; exact .base (.str _)
theorem tyNon : TyP Δ pNon "NoneType" := fun _ _ _ _ _ h => by rw [h]; exact .base .non
theorem tyL {α : Type} {E : α → Pd} {xs : List α} : TyP Δ (pL E xs) "list" := fun _ _ _ _ _ ⟨_, _, _, e, h, _⟩ => by rw [e]; exact .base (.frz h)
theorem tyD {α : Type} {E : α → Pd} {xs : List (Str × α)} : TyP Δ (pD E xs) "dict" := fun _ _ _ _ _ ⟨_, _, _, e, h, _⟩ => by rw [e]; exact .fDict h
theorem tyDI {α : Type} {E : α → Pd} {xs : List (Int × α)} : TyP Δ (pDI E xs) "dict" := fun _ _ _ _ _ ⟨_, _, _, e, h, _⟩ => by rw [e]; exact .fDict h
theorem tyT2 {α β : Type} {A : α → Pd} {B : β → Pd} {x : α × β} : TyP Δ (pT2 A B x) "tuple" := fun _ _ _ _ _ ⟨_, _, _, e, h, _⟩ => by rw [e]; exact .base (.tup h)
theorem tyT3 {α β δ : Type} {A : α → Pd} {B : β → Pd} {C : δ → Pd} {x : α × β × δ} : TyP Δ (pT3 A B C x) "tuple" := fun _ _ _ _ _ ⟨_, _, _, _, e, h, _⟩ => by rw [e]; exact .base (.tup h)
theorem tyTL {α : Type} {E : α → Pd} {xs : List α} : TyP Δ (pTL E xs) "tuple" := fun _ _ _ _ _ ⟨_, _, e, h, _⟩ => by rw [e]; exact .base (.tup h)
theorem tyOL {α : Type} {E : α → Pd} {xs : List α} {v : V} {prm : Option Nat} (j : Nat) (h : Δ[j]? = some ⟨v, oL E xs, prm⟩ := by rfl) : TyP Δ (pV v) "list" := fun K F H w hk e => by
  have e : w = v := e
  subst e
  obtain ⟨_, p, vs, _, ev, hp, z, q⟩ := hk.at h
  have ev : w = .ref p := ev
  rw [ev]
  exact .base (.lst hp)
theorem tyOD {α : Type} {E : α → Pd} {xs : List (Str × α)} {v : V} {prm : Option Nat} (j : Nat) (h : Δ[j]? = some ⟨v, oD E xs, prm⟩ := by rfl) : TyP Δ (pV v) "dict" := fun K F H w hk e => by
  have e : w = v := e
  subst e
  obtain ⟨_, p, vs, _, ev, hp, z, q⟩ := hk.at h
  have ev : w = .ref p := ev
  rw [ev]
  exact .base (.dK hp)
theorem x_isi {E1 : β → Pd} {cls : Str} {cn : String} {p1 p2 : Pos} (t : β → String) (r : β → Bool) (hm : X.mg "isinstance" = none) (hm2 : X.mg cls = none) (ha : PE X a (tE W F Γ Δ T k E1 Δ1)) (ty : ∀ b, TyP (Δ1 b) (E1 b) (t b)) (hr : ∀ b, kitB (t b) cn = some (r b)) (hb : bootBuiltins cls = some (.type cn)) (hg : Gl X "isinstance" := by rfl) (hg2 : Gl X cls := by rfl)
    (hn : cls ≠ "__name__" := by decide) (hdb : (cls == ("__debug__" : Str)) = false := by decide) (hs : starEach [a, .Name cls p2] X.env = (false, eval a X.env) :: starEach [.Name cls p2] X.env := by rfl) (hs2 : starEach [.Name cls p2] X.env = (false, eval (.Name cls p2) X.env) :: starEach [] X.env := by rfl) (hpl : (backTo pos (starEach [.Name cls p2] X.env)).any (·.1) = false := by rfl) :
    PE X (.Call (.Name "isinstance" p1) [a, .Name cls p2] [] pos) (tE W F Γ Δ T k (fun b => pBl (r b)) Δ1) :=
  (b_callB call_isi hg hm boot_isinstance (by decide) (by decide) hs hs2 hpl _ _ ha (pe_bltn (v := .ty cn) hg2 hm2 hb rfl hn hdb)).wk fun σ H Q ⟨ok, g, e, q⟩ => ⟨ok, g, e, fun b v H1 kb f ok1 hv => ⟨v, .ty cn, .type (t b), .type cn, r b, rfl, .ty cn, ty b X.K F H1 v ok1.hk hv, kit_ty (hr b), q b _ H1 kb f ok1 rfl⟩⟩
end
end
end L3
end
section
set_option Elab.async false
set_option linter.all false
set_option maxRecDepth 100000
set_option maxHeartbeats 8000000
namespace L3
open PySem PySem.Spec PyProof.Rows L2
/-! ### set(xs), a list of ints: the set with its order (what sorted wants) -/
abbrev eSet (w : World) : Obj := { cls := .type "set", dict := none, data := .set #[] 0 (.fresh 0 0 (!w.params.followText "set-order")) }
section
variable {P : Program} {w : World} {A : Around} {E : Value → Shared → Prop} {s : Shared}
theorem set_of_ints {l : Addr} {items : Array Value} (ns : List Int) {Q : Value → Shared → Prop} (hh : A.handled = none) (hl : s.heap.IsList l items) (hit : IntsAre items.toList ns) (hb : ns.length + 1 < scanBound)
    (fin : ∀ (h' : Heap) (tk c : Nat), SetR w h' s.heap.objs.size (fun j => decide (j ∈ ns)) c → c ≤ ns.length → (∀ b o, s.heap.get? b = some o → h'.get? b = some o) → Q (.ref s.heap.objs.size) { s with heap := h', toks := tk }) :
    wpAny (model P w) A (call (.type "set") [.ref l]) Q E s := by
  have size : items.size = ns.length := by have q := IntsAre.length hit; rw [Array.length_toList] at q; exact q
  have cs := PySem.F.called_set
  obtain ⟨c, tl, mro⟩ := cs.mro
  have m1 := cs.made
  have m2 := cs.sub
  refine wpAny_call (codeAny_of_tree (show wpAny _ _ (callAny (.type "set") _) _ _ _ from wpAny_pure ⟨Code.quiet_builtin _ (by decide +kernel), codeAny_builtin PySem.F.entry_type_call ?_⟩))
  rw [Around.under_plain (weight_type_call_type "set" [.ref l] []) rfl]
  have m3 := cs.notType
  have m4 := cs.canCreate
  have m5 := PySem.F.typeCall_set_1 (.ref l)
  repeat (any_goals (first | assumption | wp_step))
  refine codeAny_mono (code_set_led1 (.ref l) (E := E) (Q₁ := fun obj s₁ => obj = .ref s.heap.objs.size ∧ s₁ = { s with heap := s.heap.push (eSet w) }) ⟨rfl, rfl⟩) fun r s₁ hr => ?_
  cases r with
  | error e => exact hr
  | ok fl =>
    cases fl with
    | ret obj =>
      obtain ⟨rfl, rfl⟩ := hr
      have at1 : (s.heap.push (eSet w)).get? s.heap.objs.size = some (eSet w) := Heap.get?_push_size _ rfl
      have ty1 : Shared.TypeIs { s with heap := s.heap.push (eSet w) } (.ref s.heap.objs.size) "set" := ⟨_, at1, rfl⟩
      have m6 := cs.init.lookup
      have m7 := cs.init.bind (.ref s.heap.objs.size)
      repeat (any_goals (first | assumption | wp_step))
      refine codeAny_mono (codeAny_call_builtin (R := wants (fun r s₂ => r = .none ∧ ∃ h' tk c, s₂ = { s with heap := h', toks := tk } ∧ SetR w h' s.heap.objs.size (fun j => decide (j ∈ ns)) c ∧ c ≤ ns.length ∧ (∀ b o, s.heap.get? b = some o → h'.get? b = some o)) E) cs.init.plain PySem.F.entry_set_init (check_set_init_1 ty1 ?_)) fun r₂ s₂ hr₂ => ?_
      · obtain ⟨⟨oc, od, odt, osl⟩, ho, hc, nl, hd⟩ := hl
        simp only at hc hd
        subst hc hd
        have at2 : (s.heap.push (eSet w)).get? l = some { cls := .type "list", dict := od, data := .seq items nl, slots := osl } := Heap.get?_push_of_some _ ho
        have f1 := PySem.F.sub_list_set
        have f2 := PySem.F.sub_list_frozenset
        have f3 : (Value.type "list" == Value.type "dict") = false := by decide
        have il : (s.heap.push (eSet w)).IsList l items := ⟨_, at2, rfl, nl, rfl⟩
        unfold Builtin.«set.__init__» noKeywords Builtin.Frozenset.updateFrom
        generalize hPI : pyIter = PI
        wp_walk
        subst hPI
        refine wpAny_pyIter_list il (wpAny_bind (wpAny_runValue ?_))
        have lt : l < s.heap.objs.size := Heap.lt_size ho
        have h3 : A.in1.in1.in1.handled = none := by simp [hh]
        have sz : (s.heap.push (eSet w)).objs.size = s.heap.objs.size + 1 := Heap.size_push ..
        have ne1 : l ≠ (s.heap.push (eSet w)).objs.size := by rw [sz]; exact Nat.ne_of_lt (Nat.lt_succ_of_lt lt)
        have nf : s.heap.objs.size ∉ [(s.heap.push (eSet w)).objs.size, l] := by
          rw [sz]
          intro hm
          rcases List.mem_cons.mp hm with e | hm
          · exact absurd e (Nat.ne_of_lt (Nat.lt_succ_self _))
          · exact absurd (List.mem_singleton.mp hm) (Nat.ne_of_gt lt)
        have val : ∀ (i : Nat) (v : Value), items[i]? = some v → ∃ k t, ns[i]? = some k ∧ v = .int k t := fun i v hv => by
          have hi : i < ns.length := by rw [← size]; exact (Array.getElem?_eq_some_iff.mp hv).1
          obtain ⟨t, e⟩ := IntsAre.int_at hit i v (by rw [Array.getElem?_toList]; exact hv)
          refine ⟨ns[i], t, List.getElem?_eq_getElem hi, e.trans ?_⟩
          rw [List.getD_eq_getElem?_getD, List.getElem?_eq_getElem hi]; rfl
        refine set_update_ints ((Walks.list h3 _ l ne1 items).toS) s.heap.objs.size nf ns size hb val (items.size - 0) 0 _ (by omega) (Nat.zero_le _) ⟨⟨_, Heap.get?_push_size _ rfl, rfl, rfl⟩, il.push _⟩ ⟨0, Nat.le_refl 0, setR_new_at (Heap.get?_push_of_some _ at1)⟩ ?_
        intro s' c' mv hc' hS'
        obtain ⟨h', g2, d', tk', os'⟩ := s'
        have eg : g2 = s.gens := mv.gens
        have ed : d' = s.drawn := mv.drawn
        have eo : os' = s.os := mv.os
        subst eg ed eo
        show wpAny _ _ _ _ _ _
        refine wpAny_pure (show wpAny _ _ (ret Value.none) _ _ _ from wpAny_pure ⟨rfl, h', tk', c', rfl, hS', by rw [size] at hc'; exact hc', fun b o e => ?_⟩)
        have lb : b < s.heap.objs.size := Heap.lt_size e
        refine mv.heap b o (fun hm => ?_) (Heap.get?_push_of_some _ (Heap.get?_push_of_some _ e))
        rcases List.mem_cons.mp hm with e | hm
        · exact absurd e (Nat.ne_of_lt lb)
        · exact absurd (List.mem_singleton.mp hm) (by rw [sz]; exact Nat.ne_of_lt (Nat.lt_succ_of_lt lb))
      · cases r₂ with
        | error e => exact hr₂
        | ok f2 =>
          cases f2 with
          | ret r =>
            obtain ⟨rfl, h', tk, c', rfl, hS', hc', hk'⟩ := hr₂
            repeat (any_goals (first | assumption | wp_step))
            exact fin _ _ _ hS' hc' hk'
          | _ => exact hr₂.elim
    | _ => exact hr.elim
end
def rSetOf (w : World) : List V → Hp → VK → Prop := fun vs H Q => ∃ (a : Addr) (ns : List Int), vs = [V.ref a] ∧ Rd H a (.lst (ns.map V.int)) ∧ ns.length + 1 < scanBound ∧
  ∀ (p : Addr) (c : Nat), H p = none → c ≤ ns.length → Q (.ref p) (upd H p (SetO w p (fun j => decide (j ∈ ns)) c))
section
variable {X : Cx}
theorem cr_setOf (hc : X.calm = true) : CallR X (.type "set") (rSetOf X.w) := fun pins s σ H vs us Q I r ⟨a, ns, e, hr, hb, q⟩ => by
  subst e
  rw [Vals.ref1 r]
  obtain ⟨its, rv, hl, hz⟩ := I.list (.inl hr)
  refine set_of_ints ns (I.ok.hd hc) hl.isList rv.ints hb fun h' tk c hS hc' kp => ?_
  have hp : H s.heap.objs.size = none := I.hok.fresh (Nat.le_refl _)
  exact ⟨.ref _, upd H s.heap.objs.size (SetO X.w s.heap.objs.size (fun j => decide (j ∈ ns)) c), I.laid (t' := tk) kp (Nat.le_refl _) (setO_new hS), rfl, q _ c hp hc'⟩
variable {W : Bool} {F : Fm} {Γ : Gm} {Δ : Δs} {γ : Type}
/-- a set of ints of one's own; locked it says nothing -/
def pTrue : Pd := ⟨fun _ _ => True, fun _ h => h⟩
def oSet (w : World) (xs : List Int) : Od where
  pr G H v := ∃ p n, G = [p] ∧ v = .ref p ∧ H p = some (SetO w p (fun j => decide (j ∈ xs)) n) ∧ n ≤ xs.length
  pd := pTrue
  frame := fun ⟨p, n, eg, ev, h, z⟩ k _ => ⟨p, n, eg, ev, k p (by rw [eg]; exact List.mem_singleton.mpr rfl) _ h, z⟩
  cells := fun ⟨p, n, eg, ev, h, z⟩ => one_cells eg h trivial
  lockd := fun _ _ _ => trivial
def sideL (xs : List Int) : List Int := srt xs.eraseDups
def u64 (n : Nat) : Bool := decide (n < 64)
section
variable {a : Expr} {p pos : Pos} {β : Type} {T : Option γ} {E1 : β → Pd} {xs : β → List Int} {Δ1 : β → Δs}
theorem x_set {k : β → Option γ} (hm : X.mg "set" = none) (ha : PE X a (tE W F Γ Δ T (fun b => grd ((xs b).length + 1 < scanBound) (k b)) E1 Δ1)) (rd : ∀ b, RdL (Δ1 b) (E1 b) pInt (xs b)) (hg : Gl X "set" := by rfl) (hs : starEach [a] X.env = (false, eval a X.env) :: starEach [] X.env := by rfl) (hc : X.calm = true := by rfl) :
    PE X (.Call (.Name "set" p) [a] [] pos) (tO W F Γ Δ T k (fun b => oSet X.w (xs b)) Δ1) :=
  (u_callTy (cr_setOf hc) hg hm (by decide +kernel) (by decide) (by decide) hs _ ha).wk fun σ H Q ⟨ok, g, e, q⟩ => ⟨ok, g, e, fun b v H' kb f ok' hv => by
    obtain ⟨c, kb⟩ := grd_some kb
    obtain ⟨l, vs, ev, rv, z, pr⟩ := rd b F H' v ok'.hk hv
    have e := paired_ints pr
    subst e
    rw [ev]
    refine ⟨l, xs b, rfl, rv, c, fun n m nn hm => ?_⟩
    have g' : Gr H' (upd H' n (SetO X.w n (fun j => decide (j ∈ xs b)) m)) := Gr.new nn
    exact q b _ _ kb (f.trans g'.st) ((ok'.add (v := .ref n) (d := oSet X.w (xs b)) g' (List.nodup_cons.mpr ⟨List.not_mem_nil, List.nodup_nil⟩) (fun a ha => by rw [List.mem_singleton.mp ha]; exact nn) ⟨n, m, rfl, rfl, upd_same, hm⟩).since f)⟩
end
end
theorem dups_nodup : ∀ xs : List Int, xs.eraseDups.Nodup := fun xs => by
  induction h : xs.length using Nat.strongRecOn generalizing xs with
  | _ n ih =>
    cases xs with
    | nil => simp
    | cons x xs =>
      rw [List.eraseDups_cons]
      refine List.nodup_cons.mpr ⟨fun hm => ?_, ih _ ?_ _ rfl⟩
      · have := List.mem_eraseDups.mp hm
        simp at this
      · have := List.length_filter_le (fun b => !b == x) xs
        simp only [List.length_cons] at h
        omega
theorem sideL_lt (xs : List Int) : (sideL xs).Pairwise (· < ·) := by
  have h1 := srt_le xs.eraseDups
  have h2 : (sideL xs).Nodup := (srt_perm _).nodup_iff.mpr (dups_nodup xs)
  exact (List.pairwise_and_iff.mpr ⟨h1, h2⟩).imp fun ⟨a, b⟩ => by omega
theorem sideL_mem (xs : List Int) (k : Int) : k ∈ sideL xs ↔ k ∈ xs := by
  unfold sideL
  rw [(srt_perm _).mem_iff, List.mem_eraseDups]
theorem lt_uniq : ∀ {xs ys : List Int}, xs.Pairwise (· < ·) → ys.Pairwise (· < ·) → (∀ k, k ∈ xs ↔ k ∈ ys) → xs = ys := fun {xs ys} h1 h2 h => by
  have n1 : xs.Nodup := h1.imp fun h => by omega
  have n2 : ys.Nodup := h2.imp fun h => by omega
  exact sorted_eq ((List.perm_ext_iff_of_nodup n1 n2).mpr h) (h1.imp fun h => by omega) (h2.imp fun h => by omega)
end L3
end
section
set_option Elab.async false
set_option linter.all false
set_option maxRecDepth 100000
set_option maxHeartbeats 8000000
namespace L3
open PySem PySem.Spec PyProof.Rows L2
section
variable {P : Program} {w : World} {A : Around} {E : Value → Shared → Prop} {s : Shared}
/-- sorted(s), a set of ints, however many -/
theorem sorted_of_set {a : Addr} {S : Int → Bool} {n : Nat} {Q : Value → Shared → Prop} (R : SetR w s.heap a S n) (hh : A.handled = none)
    (hQ : ∀ s' p (out : List Value) (c : Nat) (ns : List Int), (∀ b o, s.heap.get? b = some o → s'.heap.get? b = some o) → s'.gens = s.gens → s'.os = s.os → s.heap.objs.size ≤ p → s'.heap.get? p = some (seqObj "list" out.toArray c) → IntsAre out ns → ns.Pairwise (· < ·) → (∀ k, k ∈ ns ↔ S k = true) → ns.length ≤ sizeLine → Q (.ref p) s') :
    wpAny (model P w) A (call (.builtin "sorted") [.ref a]) Q E s := by
  obtain ⟨o, es, ep, t, ho, hex, hd, good, nd, mem, small, fits, hn, ris, led⟩ := R
  refine Calls.call_function_entry kind_sorted plain_sorted entry_sorted (args_sorted1 _) ?_
  unfold Builtin.«sorted»
  refine wpAny_bind (m := checkCount "sorted" 1 1 _) (wpAny_pure (wpAny_bind (collect_set (A := A.in1) hh ⟨o, ho, hex.1, hd⟩ fits small ris led fun s1 vs k1 hz g1 o1 pm => ?_)))
  have len : vs.length < scanBound := by rw [pm.length_eq, List.length_map, Array.length_toList]; exact small
  have big : vs.length ≤ sizeLine := Nat.le_of_lt (Nat.lt_of_lt_of_le len (by decide))
  have shape : ∀ v ∈ vs, ∃ i t, v = Value.int i t := fun v hv => by
    obtain ⟨e, he, q⟩ := List.mem_map.mp (pm.mem_iff.mp hv)
    obtain ⟨k, tk, h1, _⟩ := good e he
    exact ⟨k, tk, q.symm.trans h1⟩
  have hI : IntsAre vs (vs.map SrtO.iv) := SrtO.ints_iv shape
  have keys : (vs.map SrtO.iv).Perm (es.toList.map keyOf) := by
    have q := pm.map SrtO.iv
    rw [List.map_map] at q
    refine q.trans (List.Perm.of_eq (List.map_congr_left fun e he => ?_))
    obtain ⟨k, tk, h1, h2⟩ := good e he
    show SrtO.iv e.2 = keyOf e
    rw [key_vInt, h1]
    rfl
  refine wpAny_bind (wpAny_newList ?_ big)
  have at1 : (s1.heap.push (seqObj "list" vs.toArray 0)).get? s1.heap.objs.size = some (seqObj "list" vs.toArray 0) := Heap.get?_push_size _ rfl
  refine wpAny_bind (wpAny_holding (wpAny_call_entry slot_list_sort ⟨_, at1, rfl⟩ entry_list_sort (SrtO.list_sort_ord SrtO.swo_int at1 big (fun h2 => SrtO.ints_sortable hI h2) fun out hs hb => ⟨_, rfl, ?_⟩) (args_list_sort _)))
  obtain ⟨i1, i2, i3⟩ := SrtO.ints_out hI hs hb
  have pn := i2.trans keys
  obtain ⟨c, hc⟩ := sortedHeap_at (vs := vs) (out := out.toArray) at1
  refine wpAny_pure ⟨_, rfl, hQ _ s1.heap.objs.size out c (out.map SrtO.iv) (fun b u e => ?_) g1 o1 hz hc i1 ?_ (fun k => by rw [pn.mem_iff, ← mem k]) ?_⟩
  · have q := k1 b u e
    have lt := Heap.lt_size q
    show (sortedHeap (s1.heap.push (seqObj "list" vs.toArray 0)) s1.heap.objs.size vs out.toArray).get? b = some u
    rw [sortedHeap_old (Nat.ne_of_lt lt) (by rw [size_push']; exact Nat.lt_succ_of_lt lt)]
    exact Heap.get?_push_of_some _ q
  · have n2 : (out.map SrtO.iv).Nodup := pn.nodup_iff.mpr nd
    exact (List.pairwise_and_iff.mpr ⟨i3, n2⟩).imp fun ⟨x, y⟩ => by omega
  · rw [pn.length_eq, List.length_map, Array.length_toList]
    exact Nat.le_of_lt (Nat.lt_of_lt_of_le small (by decide))
end
def rSortSet (w : World) : List V → Hp → VK → Prop := fun vs H Q => ∃ (a : Addr) (S : Int → Bool) (n : Nat), vs = [V.ref a] ∧ H a = some (SetO w a S n) ∧
  ∀ (ns : List Int) (p : Addr), ns.Pairwise (· < ·) → (∀ k : Int, k ∈ ns ↔ S k = true) → ns.length ≤ sizeLine → H p = none → Q (.ref p) (upd H p (.lst (ns.map V.int)))
section
variable {X : Cx} {W : Bool} {F : Fm} {Γ : Gm} {Δ : Δs} {γ : Type}
theorem cr_sortSet (hc : X.calm = true) : CallR X (.builtin "sorted") (rSortSet X.w) := fun pins s σ H vs us Q I r ⟨a, S, n, e, ha, q⟩ => by
  subst e
  rw [Vals.ref1 r]
  refine sorted_of_set (setO_get I ha) (I.ok.hd hc) fun s' p out c ns kp hg ho hp hat hi hs hm hl => ?_
  have hn : H p = none := I.hok.fresh hp
  have z : (ns.map V.int).length ≤ sizeLine := by rw [List.length_map]; exact hl
  have J : Inv X pins σ (upd H p (.lst (ns.map V.int))) { s with heap := s'.heap, gens := s'.gens, drawn := s'.drawn, toks := s'.toks } :=
    I.call (ch := []) (Un.laid kp hp hn) (I.hok.laid kp hp ⟨z, out, c, vals_of_ints hi, hat⟩) (by rw [hg]; exact I.bare) (fun _ z => nomatch z)
  have e : s' = { s with heap := s'.heap, gens := s'.gens, drawn := s'.drawn, toks := s'.toks } := by cases s'; cases s; cases ho; rfl
  rw [e]
  exact ⟨.ref p, _, J, rfl, q ns p hs hm hl hn⟩
section
variable {a : Expr} {p pos : Pos} {β : Type} {T : Option γ} {xs : β → List Int} {Δ1 : β → Δs} {k : β → Option γ}
/-- sorted(set(..)) -/
theorem x_sortedSet (hm : X.mg "sorted" = none) (ha : PE X a (tO W F Γ Δ T k (fun b => oSet X.w (xs b)) Δ1)) (hg : Gl X "sorted" := by rfl) (hs : starEach [a] X.env = (false, eval a X.env) :: starEach [] X.env := by rfl) (hc : X.calm = true := by rfl) :
    PE X (.Call (.Name "sorted" p) [a] [] pos) (tO W F Γ Δ T k (fun b => oL pInt (sideL (xs b))) Δ1) :=
  (u_callB (cr_sortSet hc) hg hm (by decide +kernel) (by decide) (by decide) hs _ ha).wk fun σ H Q ⟨ok, g, e, q⟩ => ⟨ok, g, e, fun b v H' kb f okn => by
    have ok' := okn.ok
    obtain ⟨_, l, n, eG, ev, hl, _⟩ := ok'.at (j := 0) rfl
    have ev : v = .ref l := ev
    rw [ev]
    refine ⟨l, _, n, rfl, hl, fun ns m h1 h2 h3 nm => ?_⟩
    have e : ns = sideL (xs b) := lt_uniq h1 (sideL_lt _) fun k => by rw [h2 k, sideL_mem]; exact decide_eq_true_iff
    subst e
    obtain ⟨o, g'⟩ := (Ok.less ok' (.cons _ (List.Sublist.refl _))).newL nm h3 (ints_paired (H := H') (sideL (xs b)))
    exact q b _ _ kb (f.trans g'.st) (o.since f)⟩
/-- len(set(..)) is not here: sets are asked by in -/
theorem v_inSet {β1 β2 : Type} {Δ2 : β1 → β2 → Δs} {i : β1 → Int} {v0 : V} {xs : β1 → β2 → List Int} {prm : Option Nat} (j : Nat) (hj : ∀ b1 b2, (Δ2 b1 b2)[j]? = some ⟨v0, oSet X.w (xs b1 b2), prm⟩) :
    ∀ b1 b2 σ v w H Q, Ok F Γ (Δ2 b1 b2) σ H → (pInt (i b1)).pr H v → (pV v0).pr H w → (∀ u, (pBl (decide (i b1 ∈ xs b1 b2))).pr H u → Q u H) → rSIn X.w v w H Q :=
  fun b1 b2 σ v w H Q ok hv hw q => by
    obtain ⟨_, l, n, eG, ev, hl, _⟩ := ok.at (hj b1 b2)
    have hw : w = v0 := hw
    exact ⟨i b1, l, _, n, hv, hw.trans ev, hl, q _ rfl⟩
end
end
end L3
end
section
set_option Elab.async false
set_option linter.all false
set_option maxRecDepth 100000
set_option maxHeartbeats 4000000
namespace L3
open PySem PySem.Spec PyProof.Rows L2
section
variable {X : Cx} {W : Bool} {F : Fm} {Γ : Gm} {Δ : Δs} {γ : Type}
/-! ### kinds that hang not on the heap -/
def FlatE {β : Type} (E : β → Pd) : Prop := ∀ b H H' v, (E b).pr H v → (E b).pr H' v
theorem feInt {β : Type} {i : β → Int} : FlatE fun b => pInt (i b) := fun _ _ _ _ h => h
theorem feBl {β : Type} {i : β → Bool} : FlatE fun b => pBl (i b) := fun _ _ _ _ h => h
theorem feStr {β : Type} {i : β → Str} : FlatE fun b => pStr (i b) := fun _ _ _ _ h => h
theorem feNon {β : Type} : FlatE fun _ : β => pNon := fun _ _ _ _ h => h
/-- a cell is locked: where one stands then -/
theorem Ok.lockC {σ : SS} {H : Hp} {i j : Nat} {c : Cell} (ok : Ok F Γ Δ σ H) (hj : Δ[j]? = some c) (hi : Γ[i]? = some (some (pV c.v))) : ∃ G, G.Nodup ∧ c.d.pr G H c.v ∧ ∀ H1, (∀ a, a ∉ G → H1 a = H a) → (∀ a ∈ G, ∀ u, H a = some u → ∃ o, H1 a = some (.frz o u)) → Ok F (Γ.set i (some c.d.pd)) (Δ.eraseIdx j) σ H1 := by
  obtain ⟨⟨Δ0, e, k⟩, n⟩ := ok
  subst e
  obtain ⟨A, x, B, e0, el, ex⟩ := map_at hj
  subst e0
  subst ex
  have k1 := k.perm mid_perm
  have hc := k1.del x List.mem_cons_self
  refine ⟨x.G, k1.ndup.1, hc, fun H1 h1 h2 => ?_⟩
  obtain ⟨r, fz, _⟩ := k1.rest (H' := H1) (fun a o na e => by rw [h1 a na]; exact e) (fun a ha => by
    obtain ⟨u, hu, _⟩ := x.d.cells hc a ha
    obtain ⟨o, ho⟩ := h2 a ha u hu
    exact ⟨_, ho⟩)
  refine ⟨⟨A ++ B, by rw [← el]; exact map_erase, r⟩, by rw [List.length_set]; exact n.len, fun m p e => ?_⟩
  by_cases h : m = i
  · subst h
    rw [List.getElem?_set_self (List.getElem?_eq_some_iff.mp hi).1] at e
    cases e
    obtain ⟨w, hs, hv⟩ := n.gam m _ hi
    have hv : w = x.v := hv
    subst hv
    exact ⟨_, hs, x.d.lockd hc h1 h2⟩
  · rw [List.getElem?_set_ne (fun z => h z.symm)] at e
    obtain ⟨w, hs, hv⟩ := n.gam m p e
    exact ⟨w, hs, p.mono fz hv⟩
/-! ### a whole group of cells is locked for an expression -/
def tLkE : List Addr → TE → TE
  | [], t => t
  | _ :: G, t => tLockE (tLkE G t)
theorem pe_lkE {e : Expr} {t : TE} (h : PE X e t) : ∀ G : List Addr, PE X e (tLkE G t)
  | [] => h
  | _ :: G => pe_lock (pe_lkE h G)
theorem tLkE_of {t : TE} {σ : SS} (mono : ∀ H (Q Q' : VK), (∀ v H', Q v H' → Q' v H') → t σ H Q → t σ H Q') : ∀ {G : List Addr} {H : Hp} {Q : VK}, G.Nodup → (∀ a ∈ G, ∃ u, H a = some u ∧ Mut (some u)) →
    (∀ H1, (∀ a, a ∉ G → H1 a = H a) → (∀ a ∈ G, ∀ u, H a = some u → ∃ o, H1 a = some (.frz o u)) → t σ H1 fun v H' => (∀ a ∈ G, H' a = H1 a) ∧ ∀ H2 : Hp, (∀ a, a ∉ G → H2 a = H' a) → (∀ a ∈ G, H2 a = H a) → Q v H2) → tLkE G t σ H Q
  | [], H, Q, _, _, k => mono H _ _ (fun v H' h => h.2 H' (fun _ _ => rfl) fun _ h => absurd h List.not_mem_nil) (k H (fun _ _ => rfl) fun _ h => absurd h List.not_mem_nil)
  | d :: G, H, Q, nd, hm, k => by
    obtain ⟨nd1, nd2⟩ := List.nodup_cons.mp nd
    obtain ⟨u, hu, mu⟩ := hm d List.mem_cons_self
    refine ⟨d, u, hu, mu, fun od => tLkE_of mono nd2 (fun a ha => ?_) fun H1 h1 h2 => ?_⟩
    · rw [upd_ne (fun e => nd1 (by rw [← e]; exact ha))]
      exact hm a (List.mem_cons_of_mem _ ha)
    · have k1 : ∀ a, a ∉ d :: G → H1 a = H a := fun a ha => by
        rw [h1 a (fun z => ha (List.mem_cons_of_mem _ z)), upd_ne (fun e => ha (by rw [e]; exact List.mem_cons_self))]
      have k2 : ∀ a ∈ d :: G, ∀ w, H a = some w → ∃ o, H1 a = some (.frz o w) := fun a ha w hw => by
        by_cases e : a = d
        · subst e
          rw [hu] at hw
          cases hw
          exact ⟨od, by rw [h1 a nd1, upd_same]⟩
        · rcases List.mem_cons.mp ha with z | z
          · exact absurd z e
          · exact h2 a z w (by rw [upd_ne e]; exact hw)
      refine mono _ _ _ (fun v H' q => ⟨fun a ha => q.1 a (List.mem_cons_of_mem _ ha), fun H2 r1 r2 => ⟨by rw [r1 d nd1, q.1 d List.mem_cons_self, h1 d nd1, upd_same], q.2 _ (fun a ha => ?_) (fun a ha => ?_)⟩⟩) (k H1 k1 k2)
      · rw [upd_ne (fun e => ha (by rw [e]; exact List.mem_cons_self)), r1 a fun z => ha (List.mem_cons_of_mem _ z)]
      · by_cases e : a = d
        · subst e; rw [upd_same, hu]
        · rcases List.mem_cons.mp ha with z | z
          · exact absurd z e
          · rw [upd_ne e, r2 a z, upd_ne e]
/-! ### tests while a group is locked -/
def tLockT (t : TT) : TT := fun σ H Q => ∃ d u, H d = some u ∧ Mut (some u) ∧ ∀ od, t σ (upd H d (.frz od u)) fun b H' => H' d = some (.frz od u) ∧ Q b (upd H' d u)
theorem pt_lockT {e : Expr} {t : TT} (h : PT X e t) : PT X e (tLockT t) := ⟨fun pins s σ H Q I ⟨d, u, hd, mu, hw⟩ => by
  obtain ⟨od, I1⟩ := I.lock hd mu
  exact thn (h.run pins s σ _ _ I1 (hw od)) fun b s1 ⟨H1, I2, e2, q⟩ => ⟨_, I2.unlock e2 (I.nofrz hd mu), q⟩⟩
def tLkT : List Addr → TT → TT
  | [], t => t
  | _ :: G, t => tLockT (tLkT G t)
theorem pt_lkT {e : Expr} {t : TT} (h : PT X e t) : ∀ G : List Addr, PT X e (tLkT G t)
  | [] => h
  | _ :: G => pt_lockT (pt_lkT h G)
theorem tLkT_of {t : TT} {σ : SS} (mono : ∀ H (Q Q' : Bool → Hp → Prop), (∀ v H', Q v H' → Q' v H') → t σ H Q → t σ H Q') : ∀ {G : List Addr} {H : Hp} {Q : Bool → Hp → Prop}, G.Nodup → (∀ a ∈ G, ∃ u, H a = some u ∧ Mut (some u)) →
    (∀ H1, (∀ a, a ∉ G → H1 a = H a) → (∀ a ∈ G, ∀ u, H a = some u → ∃ o, H1 a = some (.frz o u)) → t σ H1 fun v H' => (∀ a ∈ G, H' a = H1 a) ∧ ∀ H2 : Hp, (∀ a, a ∉ G → H2 a = H' a) → (∀ a ∈ G, H2 a = H a) → Q v H2) → tLkT G t σ H Q
  | [], H, Q, _, _, k => mono H _ _ (fun v H' h => h.2 H' (fun _ _ => rfl) fun _ h => absurd h List.not_mem_nil) (k H (fun _ _ => rfl) fun _ h => absurd h List.not_mem_nil)
  | d :: G, H, Q, nd, hm, k => by
    obtain ⟨nd1, nd2⟩ := List.nodup_cons.mp nd
    obtain ⟨u, hu, mu⟩ := hm d List.mem_cons_self
    refine ⟨d, u, hu, mu, fun od => tLkT_of mono nd2 (fun a ha => ?_) fun H1 h1 h2 => ?_⟩
    · rw [upd_ne (fun e => nd1 (by rw [← e]; exact ha))]
      exact hm a (List.mem_cons_of_mem _ ha)
    · have k1 : ∀ a, a ∉ d :: G → H1 a = H a := fun a ha => by
        rw [h1 a (fun z => ha (List.mem_cons_of_mem _ z)), upd_ne (fun e => ha (by rw [e]; exact List.mem_cons_self))]
      have k2 : ∀ a ∈ d :: G, ∀ w, H a = some w → ∃ o, H1 a = some (.frz o w) := fun a ha w hw => by
        by_cases e : a = d
        · subst e
          rw [hu] at hw
          cases hw
          exact ⟨od, by rw [h1 a nd1, upd_same]⟩
        · rcases List.mem_cons.mp ha with z | z
          · exact absurd z e
          · exact h2 a z w (by rw [upd_ne e]; exact hw)
      refine mono _ _ _ (fun v H' q => ⟨fun a ha => q.1 a (List.mem_cons_of_mem _ ha), fun H2 r1 r2 => ⟨by rw [r1 d nd1, q.1 d List.mem_cons_self, h1 d nd1, upd_same], q.2 _ (fun a ha => ?_) (fun a ha => ?_)⟩⟩) (k H1 k1 k2)
      · rw [upd_ne (fun e => ha (by rw [e]; exact List.mem_cons_self)), r1 a fun z => ha (List.mem_cons_of_mem _ z)]
      · by_cases e : a = d
        · subst e; rw [upd_same, hu]
        · rcases List.mem_cons.mp ha with z | z
          · exact absurd z e
          · rw [upd_ne e, r2 a z, upd_ne e]
theorem lk_back {G : List Addr} {H H1 H' H2 : Hp} (h1 : ∀ a, a ∉ G → H1 a = H a) (st : Gr H1 H') (r1 : ∀ a, a ∉ G → H2 a = H' a) (r2 : ∀ a ∈ G, H2 a = H a) : Gr H H2 := fun a o e => by
  by_cases ha : a ∈ G
  · rw [r2 a ha]; exact e
  · rw [r1 a ha]
    exact st a o (by rw [h1 a ha]; exact e)
theorem lk_kept {G : List Addr} {H H1 H' : Hp} (hm : ∀ a ∈ G, ∃ o, H a = some o ∧ Mut (some o)) (h2 : ∀ a ∈ G, ∀ u, H a = some u → ∃ o, H1 a = some (.frz o u)) (st : Gr H1 H') : ∀ a ∈ G, H' a = H1 a := fun a ha => by
  obtain ⟨u, hu, _⟩ := hm a ha
  obtain ⟨o, ho⟩ := h2 a ha u hu
  rw [ho]
  exact st a _ ho
/-- the cell at j is locked for the expression e, which makes nothing of it -/
theorem x_lockG {e : Expr} {β : Type} {T : Option γ} {k : β → Option γ} {E : β → Pd} {v : V} {d : Od} {prm : Option Nat} (j i : Nat) (fe : FlatE E)
    (he : PE X e (tE false F (Γ.set i (some d.pd)) (Δ.eraseIdx j) T k E fun _ => Δ.eraseIdx j)) (hj : Δ[j]? = some ⟨v, d, prm⟩ := by rfl) (hi : Γ[i]? = some (some (pV v)) := by rfl) : PE X e (tE W F Γ Δ T k E fun _ => Δ) :=
  (pe_ex fun G => pe_lkE he G).wk fun σ H Q ⟨ok, g, e, q⟩ => by
    obtain ⟨G, nd, hc, lk⟩ := ok.lockC hj hi
    refine ⟨G, tLkE_of (fun H Q Q' h ⟨a, g, b, c⟩ => ⟨a, g, b, fun b v H' k s o p => h v H' (c b v H' k s o p)⟩) nd (d.cells hc) fun H1 h1 h2 => ⟨lk H1 h1 h2, g, e, fun b w H' kb st ok2 hw => ⟨lk_kept (d.cells hc) h2 st.gr, fun H2 r1 r2 => ?_⟩⟩⟩
    have g2 := lk_back h1 st.gr r1 r2
    exact q b w H2 kb g2.st (ok.gr g2) (fe b _ _ w hw)
theorem t_lockG {e : Expr} {β : Type} {T : Option γ} {k : β → Option γ} {c : β → Bool} {v : V} {d : Od} {prm : Option Nat} (j i : Nat)
    (he : PT X e (tTs false F (Γ.set i (some d.pd)) (Δ.eraseIdx j) T k c fun _ => Δ.eraseIdx j)) (hj : Δ[j]? = some ⟨v, d, prm⟩ := by rfl) (hi : Γ[i]? = some (some (pV v)) := by rfl) : PT X e (tTs W F Γ Δ T k c fun _ => Δ) :=
  (pt_ex fun G => pt_lkT he G).wk fun σ H Q ⟨ok, g, e, q⟩ => by
    obtain ⟨G, nd, hc, lk⟩ := ok.lockC hj hi
    refine ⟨G, tLkT_of (fun H Q Q' h ⟨a, g, b, c⟩ => ⟨a, g, b, fun b H' k s o => h _ H' (c b H' k s o)⟩) nd (d.cells hc) fun H1 h1 h2 => ⟨lk H1 h1 h2, g, e, fun b H' kb st ok2 => ⟨lk_kept (d.cells hc) h2 st.gr, fun H2 r1 r2 => ?_⟩⟩⟩
    have g2 := lk_back h1 st.gr r1 r2
    exact q b H2 kb g2.st (ok.gr g2)
/-- kinds of things of one's own that hang on their own places alone -/
def FlatO {β : Type} (D : β → Od) : Prop := ∀ b G H H' v, (D b).pr G H v → (∀ a ∈ G, H' a = H a) → (D b).pr G H' v
theorem foL {β α : Type} {E : α → Pd} {x : β → List α} (fe : FlatE E) : FlatO fun b => oL E (x b) := fun b G H H' v ⟨p, vs, eg, ev, h, z, q⟩ k => ⟨p, vs, eg, ev, by rw [k p (by rw [eg]; exact List.mem_singleton.mpr rfl)]; exact h, z, paired_mono (fun x u => fe x H H' u) q⟩
/-- .. new things are made under the lock -/
theorem o_lockG {e : Expr} {β : Type} {T : Option γ} {k : β → Option γ} {D : β → Od} {v : V} {d : Od} {prm : Option Nat} (j i : Nat) (fo : FlatO D)
    (he : PE X e (tO false F (Γ.set i (some d.pd)) (Δ.eraseIdx j) T k D fun _ => Δ.eraseIdx j)) (hj : Δ[j]? = some ⟨v, d, prm⟩ := by rfl) (hi : Γ[i]? = some (some (pV v)) := by rfl) : PE X e (tO W F Γ Δ T k D fun _ => Δ) :=
  (pe_ex fun G => pe_lkE he G).wk fun σ H Q ⟨ok, g, e, q⟩ => by
    obtain ⟨G, nd, hc, lk⟩ := ok.lockC hj hi
    refine ⟨G, tLkE_of (fun H Q Q' h ⟨a, g, b, c⟩ => ⟨a, g, b, fun b v H' k s o => h v H' (c b v H' k s o)⟩) nd (d.cells hc) fun H1 h1 h2 => ⟨lk H1 h1 h2, g, e, fun b w H' kb st okn => ⟨lk_kept (d.cells hc) h2 st.gr, fun H2 r1 r2 => ?_⟩⟩⟩
    have g2 := lk_back h1 st.gr r1 r2
    obtain ⟨Δ0, Gn, _, kn, nw, _⟩ := okn
    have out : ∀ a ∈ Gn, a ∉ G := fun a ha hg => by
      obtain ⟨u, hu, _⟩ := d.cells hc a hg
      obtain ⟨o, ho⟩ := h2 a hg u hu
      rw [nw rfl a ha] at ho; cases ho
    refine q b w H2 kb g2.st (ok.add g2 kn.ndup.1 (fun a ha => ?_) (fo b Gn H' H2 w (kn.del _ List.mem_cons_self) fun a ha => r1 a (out a ha)))
    rw [← h1 a (out a ha)]
    exact nw rfl a ha
end
end L3
end
section
set_option Elab.async false
set_option linter.all false
set_option maxRecDepth 100000
set_option maxHeartbeats 4000000
namespace L3
open PySem PySem.Spec PyProof.Rows L2
section
variable {X : Cx} {W : Bool} {F : Fm} {Γ : Gm} {Δ : Δs} {γ : Type}
/-! ### lists of lists of one's own -/
inductive Own3 {α : Type} (D : α → Od) (H : Hp) : List α → List V → List (List Addr) → Prop
  | nil : Own3 D H [] [] []
  | cons {x : α} {xs : List α} {v : V} {vs : List V} {g : List Addr} {gs : List (List Addr)} : (D x).pr g H v → Own3 D H xs vs gs → Own3 D H (x :: xs) (v :: vs) (g :: gs)
theorem Own3.len {α : Type} {D : α → Od} {H : Hp} : ∀ {xs : List α} {vs : List V} {gs : List (List Addr)}, Own3 D H xs vs gs → xs.length = vs.length
  | _, _, _, .nil => rfl
  | _, _, _, .cons _ t => congrArg (· + 1) t.len
theorem Own3.frame {α : Type} {D : α → Od} {H H' : Hp} (f : Fzs H H') : ∀ {xs : List α} {vs : List V} {gs : List (List Addr)}, Own3 D H xs vs gs → (∀ a ∈ gs.flatten, ∀ o, H a = some o → H' a = some o) → Own3 D H' xs vs gs
  | _, _, _, .nil, _ => .nil
  | _, _, _, .cons r t, k => by
    rw [List.flatten_cons] at k
    exact .cons ((D _).frame r (fun a ha => k a (List.mem_append_left _ ha)) f) (Own3.frame f t fun a ha => k a (List.mem_append_right _ ha))
theorem Own3.cells {α : Type} {D : α → Od} {H : Hp} : ∀ {xs : List α} {vs : List V} {gs : List (List Addr)}, Own3 D H xs vs gs → ∀ a ∈ gs.flatten, ∃ o, H a = some o ∧ Mut (some o)
  | _, _, _, .nil, a, h => by simp at h
  | _, _, _, .cons r t, a, h => by
    rw [List.flatten_cons] at h
    rcases List.mem_append.mp h with h | h
    · exact (D _).cells r a h
    · exact t.cells a h
theorem Own3.lockd {α : Type} {D : α → Od} {H H1 : Hp} {S : List Addr} (h1 : ∀ a, a ∉ S → H1 a = H a) (h2 : ∀ a ∈ S, ∀ u, H a = some u → ∃ o, H1 a = some (.frz o u)) (hm : ∀ a ∈ S, ∃ o, H a = some o ∧ Mut (some o)) : ∀ {xs : List α} {vs : List V} {gs : List (List Addr)}, Own3 D H xs vs gs → (∀ a ∈ gs.flatten, a ∈ S) → Paired (fun x u => (D x).pd.pr H1 u) xs vs
  | _, _, _, .nil, _ => .nil
  | x :: _, v :: _, g :: gs, .cons r t, sub => by
    rw [List.flatten_cons] at sub
    refine .cons ?_ (Own3.lockd h1 h2 hm t fun a ha => sub a (List.mem_append_right _ ha))
    have m1 : ∀ a, a ∉ g → (fun a => if a ∈ g then H1 a else H a : Hp) a = H a := fun a ha => if_neg ha
    have m2 : ∀ a ∈ g, ∀ u, H a = some u → ∃ o, (fun a => if a ∈ g then H1 a else H a : Hp) a = some (.frz o u) := fun a ha u e => by
      obtain ⟨o, ho⟩ := h2 a (sub a (List.mem_append_left _ ha)) u e
      exact ⟨o, (if_pos ha).trans ho⟩
    refine (D x).pd.mono (fun a o p e => ?_) ((D x).lockd r m1 m2)
    by_cases ha : a ∈ g
    · exact (if_pos ha).symm.trans e
    · have e : H a = some o := (if_neg ha).symm.trans e
      by_cases hs : a ∈ S
      · obtain ⟨u, hu, mu⟩ := hm a hs
        rw [e] at hu
        cases hu
        exact absurd p (Mut.npst mu)
      · rw [h1 a hs]; exact e
def oLO {α : Type} (D : α → Od) (xs : List α) : Od where
  pr G H v := ∃ p vs gs, G = p :: gs.flatten ∧ v = .ref p ∧ H p = some (.lst vs) ∧ xs.length ≤ sizeLine ∧ Own3 D H xs vs gs
  pd := pL (fun x => (D x).pd) xs
  frame := fun {G H H' v} h k f => by
    obtain ⟨p, vs, gs, eg, ev, h, z, q⟩ := h
    exact ⟨p, vs, gs, eg, ev, k p (by rw [eg]; exact List.mem_cons_self) _ h, z, q.frame f fun a ha => k a (by rw [eg]; exact List.mem_cons_of_mem _ ha)⟩
  cells := fun ⟨p, vs, gs, eg, ev, h, z, q⟩ a ha => by
    rw [eg] at ha
    rcases List.mem_cons.mp ha with e | ha
    · rw [e]; exact ⟨_, h, trivial⟩
    · exact q.cells a ha
  lockd := fun {G H H1 v} ⟨p, vs, gs, eg, ev, h, z, q⟩ h1 h2 => by
    obtain ⟨o, ho⟩ := h2 p (by rw [eg]; exact List.mem_cons_self) _ h
    have hm : ∀ a ∈ G, ∃ o, H a = some o ∧ Mut (some o) := fun a ha => by
      rw [eg] at ha
      rcases List.mem_cons.mp ha with e | ha
      · rw [e]; exact ⟨_, h, trivial⟩
      · exact q.cells a ha
    exact ⟨p, o, vs, ev, ho, z, q.lockd h1 h2 hm fun a ha => by rw [eg]; exact List.mem_cons_of_mem _ ha⟩
theorem Own3.at {α : Type} {D : α → Od} {H : Hp} : ∀ {xs : List α} {vs : List V} {gs : List (List Addr)} {m : Nat} {x : α}, Own3 D H xs vs gs → xs[m]? = some x → ∃ v g, vs[m]? = some v ∧ gs[m]? = some g ∧ (D x).pr g H v
  | _, _, _, _, _, .nil, e => by simp at e
  | _, _, _, 0, _, .cons r _, e => by simp at e; subst e; exact ⟨_, _, rfl, rfl, r⟩
  | _, _, _, m + 1, x, .cons _ t, e => by
    obtain ⟨v, g, h1, h2, h3⟩ := Own3.at (m := m) (x := x) t (by simpa using e)
    exact ⟨v, g, by simpa using h1, by simpa using h2, h3⟩
/-- one part changes, at its own cells -/
theorem Own3.turn {α : Type} {D : α → Od} {H H' : Hp} {y : α} {v : V} {g : List Addr} (f : Fzs H H') (kp : ∀ a o, a ∉ g → H a = some o → H' a = some o) (new : (D y).pr g H' v) : ∀ {xs : List α} {vs : List V} {gs : List (List Addr)} {m : Nat}, Own3 D H xs vs gs → gs.flatten.Nodup → vs[m]? = some v → gs[m]? = some g → Own3 D H' (xs.set m y) vs gs
  | _, _, _, _, .nil, _, e, _ => by simp at e
  | _, _, _, 0, .cons r t, nd, e1, e2 => by
    simp at e1 e2
    subst e1 e2
    rw [List.flatten_cons] at nd
    exact .cons new (t.frame f fun a ha o e => kp a o (fun hg => (List.nodup_append.mp nd).2.2 a hg a ha rfl) e)
  | _, _, g0 :: gs, m + 1, .cons r t, nd, e1, e2 => by
    rw [List.flatten_cons] at nd
    have e2' : gs[m]? = some g := by simpa using e2
    refine .cons ((D _).frame r (fun a ha o e => kp a o (fun hg => ?_) e) f) (Own3.turn f kp new t (List.nodup_append.mp nd).2.1 (by simpa using e1) e2')
    exact (List.nodup_append.mp nd).2.2 a ha a (List.mem_flatten.mpr ⟨g, List.mem_of_getElem? e2', hg⟩) rfl
theorem Own3.glen {α : Type} {D : α → Od} {H : Hp} : ∀ {xs : List α} {vs : List V} {gs : List (List Addr)}, Own3 D H xs vs gs → xs.length = gs.length
  | _, _, _, .nil => rfl
  | _, _, _, .cons _ t => congrArg (· + 1) t.glen

/-! ### displays of things of one's own -/
def oSeq {α : Type} (D : α → Od) (xs : List α) (vs : List V) : Od where
  pr G H _ := ∃ gs, G = gs.flatten ∧ Own3 D H xs vs gs
  pd := pTrue
  frame := fun {G H H' v} h k f => by
    obtain ⟨gs, eg, q⟩ := h
    exact ⟨gs, eg, q.frame f fun a ha => k a (by rw [eg]; exact ha)⟩
  cells := fun {G H v} h a ha => by
    obtain ⟨gs, eg, q⟩ := h
    exact q.cells a (by rw [← eg]; exact ha)
  lockd := fun _ _ _ => trivial
def tArO {α β γ : Type} (F : Fm) (Γ : Gm) (Δ : Δs) (T : Option γ) (k : β → Option γ) (D : α → Od) (xs : β → List α) (Δ' : β → Δs) : TA := fun σ H Q =>
  Ok F Γ Δ σ H ∧ ∃ g, T = some g ∧ ∀ b vs H', k b = some g → St true H H' → Ok F Γ (⟨.non, oSeq D (xs b) vs, none⟩ :: Δ' b) σ H' → Q vs H'
theorem ao_nil {α : Type} {D : α → Od} {k : Unit → Option γ} : PA X [] (tArO F Γ Δ (k ()) k D (fun _ => []) fun _ => Δ) :=
  pa_nil.wk fun σ H Q ⟨ok, g, e, q⟩ => q () [] H e (St.refl H) (by
    obtain ⟨⟨Δ0, e, k⟩, n⟩ := ok
    exact ⟨⟨⟨[], .non, oSeq D [] [], none⟩ :: Δ0, by rw [List.map_cons, e]; rfl, k.cons List.nodup_nil (fun _ h => nomatch h) ⟨[], rfl, .nil⟩ (fun _ h => nomatch h)⟩, n⟩)
theorem Hk.glue {α : Type} {D : α → Od} {x : α} {xs : List α} {v : V} {vs : List V} {H : Hp} (k : Hk F (⟨.non, oSeq D xs vs, none⟩ :: ⟨v, D x, none⟩ :: Δ) H) : Hk F (⟨.non, oSeq D (x :: xs) (v :: vs), none⟩ :: Δ) H := by
  obtain ⟨Δ0, e, k⟩ := k
  match Δ0, e, k with
  | [], e, _ => cases e
  | [_], e, _ =>
    have := congrArg List.length e
    simp at this
  | c1 :: c2 :: R, e, k =>
    obtain ⟨G1, v1, d1, p1⟩ := c1
    obtain ⟨G2, v2, d2, p2⟩ := c2
    have e' : (⟨v1, d1, p1⟩ : Cell) = ⟨.non, oSeq D xs vs, none⟩ ∧ (⟨v2, d2, p2⟩ : Cell) = ⟨v, D x, none⟩ ∧ R.map Cel.fg = Δ := by simpa [Cel.fg] using e
    obtain ⟨e1, e2, e3⟩ := e'
    cases e1
    cases e2
    obtain ⟨gs, eg, q⟩ := k.del _ List.mem_cons_self
    have eg : G1 = gs.flatten := eg
    have m2 := k.del _ (List.mem_cons_of_mem _ List.mem_cons_self)
    have nd1 := k.ndup
    have k2 := k.less (.cons _ (List.Sublist.refl _))
    have nd2 := k2.ndup
    have k3 := k2.less (.cons _ (List.Sublist.refl _))
    have own : ∀ a, a ∈ G2 ∨ a ∈ G1 → F.H0 a = none := fun a ha => by
      rcases ha with ha | ha
      · rcases k.own _ (List.mem_cons_of_mem _ List.mem_cons_self) a ha with z | ⟨_, _, z, _⟩
        · exact z
        · cases z
      · rcases k.own _ List.mem_cons_self a ha with z | ⟨_, _, z, _⟩
        · exact z
        · cases z
    refine ⟨⟨G2 ++ G1, .non, oSeq D (x :: xs) (v :: vs), none⟩ :: R, by rw [List.map_cons, e3]; rfl, k3.cons ?_ (fun a ha hb => ?_) ⟨G2 :: gs, by rw [List.flatten_cons, ← eg], .cons m2 q⟩ fun a ha => .inl (own a (List.mem_append.mp ha))⟩
    · refine List.nodup_append.mpr ⟨nd2.1, nd1.1, fun a ha b hb e => ?_⟩
      subst e
      exact nd1.2.2 a hb (by rw [cellsOf_cons]; exact List.mem_append_left _ ha)
    · rcases List.mem_append.mp ha with h | h
      · exact nd2.2.2 a h hb
      · exact nd1.2.2 a h (by rw [cellsOf_cons]; exact List.mem_append_right _ hb)
theorem ao_cons {a : Expr} {es : List Expr} {α β1 β2 : Type} {T : Option γ} {k1 : β1 → Option γ} {k : β1 × β2 → Option γ} {D : α → Od} {x : β1 → α} {xs : β1 → β2 → List α} {Δ1 : β1 → Δs} {Δ2 : β1 → β2 → Δs}
    (ha : PE X a (tO true F Γ Δ T k1 (fun b => D (x b)) Δ1)) (hr : ∀ b1 v, PA X es (tArO F Γ (⟨v, D (x b1), none⟩ :: Δ1 b1) (k1 b1) (fun b2 => k (b1, b2)) D (xs b1) fun b2 => ⟨v, D (x b1), none⟩ :: Δ2 b1 b2)) (hs : starEach (a :: es) X.env = (false, eval a X.env) :: starEach es X.env := by rfl) :
    PA X (a :: es) (tArO F Γ Δ T k D (fun b => x b.1 :: xs b.1 b.2) fun b => Δ2 b.1 b.2) :=
  (pa_cons ha (pa_ex fun b1 => pa_ex fun v => hr b1 v) hs).wk fun σ H Q ⟨ok, g, e, q⟩ => ⟨ok, g, e, fun b1 v H1 kb f1 ok1 => ⟨b1, v, ok1.ok, g, kb, fun b2 vs H2 kb2 f2 ok2 => q (b1, b2) (v :: vs) H2 kb2 (f1.trans f2) ⟨ok2.hk.glue, ok2.nm⟩⟩⟩
theorem x_dispO {es : List Expr} {pos : Pos} {β α : Type} {T : Option γ} {k : β → Option γ} {D : α → Od} {xs : β → List α} {Δ1 : β → Δs} (ha : PA X es (tArO F Γ Δ T k D xs Δ1)) (hz : ∀ b, (xs b).length ≤ 1000) :
    PE X (.List es pos) (tO true F Γ Δ T k (fun b => oLO D (xs b)) Δ1) :=
  (pe_lst ha).wk fun σ H Q ⟨ok, g, e, q⟩ => ⟨ok, g, e, fun b vs H' kb f ok' => by
    have z : (xs b).length ≤ sizeLine := Nat.le_trans (hz b) (by decide)
    obtain ⟨⟨Δ0, e0, k0⟩, n⟩ := ok'
    match Δ0, e0, k0 with
    | c1 :: R, e0, k0 =>
      obtain ⟨G1, v1, d1, p1⟩ := c1
      have e' : (⟨v1, d1, p1⟩ : Cell) = ⟨.non, oSeq D (xs b) vs, none⟩ ∧ R.map Cel.fg = Δ1 b := by simpa [Cel.fg] using e0
      obtain ⟨e1, e2⟩ := e'
      cases e1
      obtain ⟨gs, eg, o3⟩ := k0.del _ List.mem_cons_self
      have eg : G1 = gs.flatten := eg
      refine ⟨by rw [← o3.len]; exact z, fun p np => ?_⟩
      have gr : Gr H' (upd H' p (.lst vs)) := Gr.new np
      have k1 := k0.gr gr
      have nd := k1.ndup
      have k2 := k1.less (.cons _ (List.Sublist.refl _))
      have pn : ∀ {a}, a ∈ cellsOf (⟨G1, .non, oSeq D (xs b) vs, none⟩ :: R) → a ≠ p := fun {a} h e => by
        obtain ⟨o, e3, _⟩ := k0.isC h
        rw [e, np] at e3; cases e3
      refine q b (.ref p) _ kb (f.trans gr.st) ⟨R, p :: G1, e2, k2.cons (c := ⟨p :: G1, .ref p, oLO D (xs b), none⟩) ?_ (fun a ha hb => ?_) ⟨p, vs, gs, by rw [eg], rfl, upd_same, z, o3.frame gr.fzs fun a _ o e => gr a o e⟩ (fun a ha => .inl ?_), (fun h => nomatch h), n.mono gr.fzs⟩
      · exact List.nodup_cons.mpr ⟨fun h => pn (by rw [cellsOf_cons]; exact List.mem_append_left _ h) rfl, nd.1⟩
      · rcases List.mem_cons.mp ha with e | ha
        · exact pn (a := a) (by rw [cellsOf_cons]; exact List.mem_append_right _ hb) e
        · exact nd.2.2 a ha hb
      · rcases List.mem_cons.mp ha with e | ha
        · rw [e]; exact k0.fresh0 np
        · rcases k0.own _ List.mem_cons_self a ha with z | ⟨_, _, z, _⟩
          · exact z
          · cases z⟩
/-! ### a part is appended to -/
theorem x_appI {o i e : Expr} {ipos apos cpos : Pos} {β1 β2 β3 α : Type} {T : Option γ} {k1 : β1 → Option γ} {k2 : β1 → β2 → Nat → Option γ} {k : ((β1 × β2) × Nat) × β3 → Option γ} {Ee : α → Pd} {n : β1 → β2 → Int} {xs : List (List α)} {y : β1 → β2 → Nat → β3 → α} {v : V} {prm : Option Nat} (j : Nat)
    (ho : PE X o (tE true F Γ Δ T k1 (fun _ => pV v) fun _ => Δ)) (hi : ∀ b1, PE X i (tE true F Γ Δ (k1 b1) (fun b2 => (ixN xs.length (n b1 b2)).bind fun m => k2 b1 b2 m) (fun b2 => pInt (n b1 b2)) fun _ => Δ))
    (he : ∀ b1 b2 m, PE X e (tE false F Γ Δ (k2 b1 b2 m) (fun b3 => grd ((xs.getD m []).length < sizeLine) (k (((b1, b2), m), b3))) (fun b3 => Ee (y b1 b2 m b3)) fun _ => Δ))
    (hj : Δ[j]? = some ⟨v, oLO (oL Ee) xs, prm⟩) (hpi : PlainIx i := by exact fun _ _ => rfl)
    (hbase : attributeBase (.Subscript o i ipos) "append" X.env (eval (.Subscript o i ipos) X.env) = eval (.Subscript o i ipos) X.env := by rfl) (hline : (apos.endLine == cpos.line) = true := by rfl) (hs : starEach [e] X.env = (false, eval e X.env) :: starEach [] X.env := by rfl)
    (hfew : ((backTo cpos (starEach [e] X.env)).all (fun x => !x.1) && (backToKw cpos (keywordEach [] X.env)).all (fun x => x.1.isSome) && decide ([e].length + ([] : List Keyword).length + (if ([] : List Keyword).isEmpty then 0 else 1) < 30)) = true := by rfl) :
    PE X (.Call (.Attribute (.Subscript o i ipos) "append" apos) [e] [] cpos) (tE true F Γ Δ T k (fun _ => pNon) fun b => Δ.set j ⟨v, oLO (oL Ee) (xs.set b.1.2 (xs.getD b.1.2 [] ++ [y b.1.1.1 b.1.1.2 b.1.2 b.2])), prm⟩) :=
  (pe_bm PySem.F.plainAttrs_list PySem.F.slot_list_append PySem.F.type_list_append mt_append (pe_ix ix_list ho (pe_ex hi) hpi) (pa_cons (pe_ex fun b1 => pe_ex fun b2 => pe_ex fun m => he b1 b2 m) pa_nil hs) hbase hfew hline hs).wk fun σ H Q ⟨ok, g, e, q⟩ => ⟨ok, g, e, fun b1 u H1 kb1 f1 ok1 hu => ⟨b1, ok1, g, kb1, fun b2 w H2 kb2 f2 ok2 hw => by
    obtain ⟨m, em, km⟩ := bind_some kb2
    have hu : u = v := hu
    have hw : w = .int (n b1 b2) := hw
    subst hu hw
    obtain ⟨_, p, vs, gs, _, ev, hp, z, o3⟩ := ok2.at hj
    have hm : m < xs.length := (ixN_seq em).2.1
    obtain ⟨c, gc, hvc, hgc, pc⟩ := o3.at (List.getElem?_eq_getElem hm)
    obtain ⟨q1, ws1, _, ec1, hq1, _, _⟩ := pc
    have ec1 : c = .ref q1 := ec1
    have ev : u = .ref p := ev
    have hat : atI vs (n b1 b2) = some c := by
      unfold atI
      rw [← o3.len, em]
      exact hvc
    refine ⟨p, vs, n b1 b2, c, ev, rfl, .inl (.inl hp), hat, by rw [ec1]; exact .inl ⟨rfl, ws1, .inl (.inl hq1)⟩, b1, b2, m, ok2, g, km, fun b3 w H3 kb3 f3 ok3 hw => ?_⟩
    obtain ⟨cg, kb⟩ := grd_some kb3
    have gr3 : Gr H2 H3 := f3.gr
    obtain ⟨G, ⟨p', vs', gs', eG, ev', hp', z', o3'⟩, ndG, turn⟩ := ok3.cell hj
    have ev' : u = .ref p' := ev'
    rw [ev] at ev'
    cases ev'
    have evs : vs' = vs := by
      have := gr3 _ _ hp
      rw [hp'] at this
      cases this
      rfl
    subst evs
    have eG : G = p :: gs'.flatten := eG
    subst eG
    obtain ⟨c', gc', hvc', hgc', pc'⟩ := o3'.at (List.getElem?_eq_getElem hm)
    rw [hvc] at hvc'
    cases hvc'
    obtain ⟨q2, ws, eg2, ec, hq, zq, pq⟩ := pc'
    have ec : c = .ref q2 := ec
    have gd : xs.getD m [] = xs[m] := by rw [List.getD_eq_getElem?_getD, List.getElem?_eq_getElem hm]; rfl
    rw [gd] at cg
    have hqG : q2 ∈ gs'.flatten := List.mem_flatten.mpr ⟨gc', List.mem_of_getElem? hgc', by rw [eg2]; exact List.mem_singleton.mpr rfl⟩
    have npq : p ≠ q2 := fun z => (List.nodup_cons.mp ndG).1 (by rw [z]; exact hqG)
    have fzm : Fzs H3 (upd H3 q2 (.lst (ws ++ [w]))) := Fzs.mut hq fun z => z
    have kp : ∀ a o, a ∉ gc' → H3 a = some o → upd H3 q2 (.lst (ws ++ [w])) a = some o := fun a o na e => by
      rw [upd_ne fun z => na (by rw [eg2, z]; exact List.mem_singleton.mpr rfl)]; exact e
    obtain ⟨ok4, f4⟩ := turn (upd H3 q2 (.lst (ws ++ [w]))) (oLO (oL Ee) (xs.set m (xs.getD m [] ++ [y b1 b2 m b3]))) (fun a o na e => kp a o (fun hg => na (List.mem_cons_of_mem _ (List.mem_flatten.mpr ⟨gc', List.mem_of_getElem? hgc', hg⟩))) e)
      ⟨p, vs', gs', rfl, ev, by rw [upd_ne npq]; exact hp', by rw [List.length_set]; exact z, Own3.turn fzm kp (by
        rw [gd]
        exact ⟨q2, ws ++ [w], eg2, ec, upd_same, by rw [List.length_append, List.length_singleton]; omega, paired_app (paired_mono (fun x _ h => (Ee x).mono fzm h) pq) (.cons ((Ee _).mono fzm hw) .nil)⟩) o3' (List.nodup_cons.mp ndG).2 hvc hgc'⟩
    exact ⟨q2, ws, w, ec, rfl, hq, by rw [← paired_len pq]; exact cg, q (((b1, b2), m), b3) .non _ kb ((f1.trans f2).trans (gr3.st.trans f4)) ok4 rfl⟩⟩⟩
/-! ### a thing of one's own is appended -/
theorem Own3.app {α : Type} {D : α → Od} {H : Hp} {y : α} {v : V} {g : List Addr} (r : (D y).pr g H v) : ∀ {xs : List α} {vs : List V} {gs : List (List Addr)}, Own3 D H xs vs gs → Own3 D H (xs ++ [y]) (vs ++ [v]) (gs ++ [g])
  | _, _, _, .nil => .cons r .nil
  | _, _, _, .cons a t => .cons a (t.app r)
theorem x_appO {o e : Expr} {apos cpos : Pos} {β1 β2 α : Type} {T : Option γ} {k1 : β1 → Option γ} {k : β1 × β2 → Option γ} {Δ1 : β1 → Δs} {Δ2 : β1 → β2 → Δs} {D : α → Od} {xs0 : β1 → List α} {xs : β1 → β2 → List α} {y : β1 → β2 → α} {v : V} {prm0 prm : Option Nat} (j : Nat)
    (ho : PE X o (tE true F Γ Δ T k1 (fun _ => pV v) Δ1)) (he : ∀ b1, PE X e (tO true F Γ (Δ1 b1) (k1 b1) (fun b2 => grd ((xs b1 b2).length < sizeLine) (k (b1, b2))) (fun b2 => D (y b1 b2)) (Δ2 b1))) (hj0 : ∀ b1, (Δ1 b1)[j]? = some ⟨v, oLO D (xs0 b1), prm0⟩)
    (hj : ∀ b1 b2, (Δ2 b1 b2)[j]? = some ⟨v, oLO D (xs b1 b2), prm⟩)
    (hbase : attributeBase o "append" X.env (eval o X.env) = eval o X.env := by rfl) (hline : (apos.endLine == cpos.line) = true := by rfl) (hs : starEach [e] X.env = (false, eval e X.env) :: starEach [] X.env := by rfl)
    (hfew : ((backTo cpos (starEach [e] X.env)).all (fun x => !x.1) && (backToKw cpos (keywordEach [] X.env)).all (fun x => x.1.isSome) && decide ([e].length + ([] : List Keyword).length + (if ([] : List Keyword).isEmpty then 0 else 1) < 30)) = true := by rfl) :
    PE X (.Call (.Attribute o "append" apos) [e] [] cpos) (tE true F Γ Δ T k (fun _ => pNon) fun b => (Δ2 b.1 b.2).set j ⟨v, oLO D (xs b.1 b.2 ++ [y b.1 b.2]), prm⟩) :=
  (pe_bm PySem.F.plainAttrs_list PySem.F.slot_list_append PySem.F.type_list_append mt_append ho (pa_cons (pe_ex he) pa_nil hs) hbase hfew hline hs).wk fun σ H Q ⟨ok, g, e, q⟩ => ⟨ok, g, e, fun b1 u H1 kb1 f1 ok1 hu => by
    have hu : u = v := hu
    subst hu
    obtain ⟨_, p0, vs0, _, _, ev0, hp0, _, _⟩ := ok1.at (hj0 b1)
    have ev0 : u = .ref p0 := ev0
    refine ⟨by rw [ev0]; exact .inl ⟨rfl, vs0, .inl (.inl hp0)⟩, b1, ok1, g, kb1, fun b2 w H2 kb2 f2 okn => ?_⟩
    obtain ⟨c, kb⟩ := grd_some kb2
    obtain ⟨G, Gn, ⟨p, vs, gs, eG, ev, hp, z, o3⟩, pn, nd, turn⟩ := okn.absorb (hj b1 b2)
    have eG : G = p :: gs.flatten := eG
    subst eG
    have pG : p ∉ gs.flatten := (List.nodup_cons.mp (List.nodup_append.mp nd).1).1
    have pN : p ∉ Gn := fun h => (List.nodup_append.mp nd).2.2 p List.mem_cons_self p h rfl
    have fzm : Fzs H2 (upd H2 p (.lst (vs ++ [w]))) := Fzs.mut hp fun z => z
    have kp : ∀ a o, a ≠ p → H2 a = some o → upd H2 p (.lst (vs ++ [w])) a = some o := fun a o na e => by rw [upd_ne na]; exact e
    have ndf : (p :: (gs ++ [Gn]).flatten).Nodup := by
      rw [List.flatten_append, List.flatten_cons, List.flatten_nil, List.append_nil]
      exact nd
    obtain ⟨ok3, fz3, dom3⟩ := turn (upd H2 p (.lst (vs ++ [w]))) (oLO D (xs b1 b2 ++ [y b1 b2])) (p :: (gs ++ [Gn]).flatten) (fun a o na _ e => kp a o (fun z => na (by rw [z]; exact List.mem_cons_self)) e) (fun a ha => by
        have : ∃ o, H2 a = some o := by
          rcases ha with h | h
          · rcases List.mem_cons.mp h with e | h
            · rw [e]; exact ⟨_, hp⟩
            · obtain ⟨o, e, _⟩ := o3.cells a h; exact ⟨o, e⟩
          · obtain ⟨o, e, _⟩ := (D _).cells pn a h; exact ⟨o, e⟩
        obtain ⟨o, e⟩ := this
        exact upd_dom _ _ a o e) ndf (fun a ha => .inl (by
        rw [List.flatten_append, List.flatten_cons, List.flatten_nil, List.append_nil] at ha
        rcases List.mem_cons.mp ha with e | ha
        · exact .inl (by rw [e]; exact List.mem_cons_self)
        · rcases List.mem_append.mp ha with h | h
          · exact .inl (List.mem_cons_of_mem _ h)
          · exact .inr h)) ⟨p, vs ++ [w], gs ++ [Gn], rfl, ev, upd_same, by rw [List.length_append, List.length_singleton]; omega, (o3.frame fzm fun a ha o e => kp a o (fun z => pG (by rw [← z]; exact ha)) e).app ((D _).frame pn (fun a ha o e => kp a o (fun z => pN (by rw [← z]; exact ha)) e) fzm)⟩
    exact ⟨p, vs, w, ev, rfl, hp, by rw [← o3.len]; exact c, q (b1, b2) .non _ kb ((f1.trans f2).trans ⟨fz3, (fun h => nomatch h), dom3⟩) ok3 rfl⟩⟩
end
end L3
end
section
set_option Elab.async false
set_option linter.all false
set_option maxRecDepth 100000
set_option maxHeartbeats 4000000
namespace L3
open PySem PySem.Spec PyProof.Rows L2
section
variable {X : Cx} {W : Bool} {F : Fm} {Γ : Gm} {Δ : Δs} {γ : Type} {N : Fn γ} {rest : List Stmt}
/-- name = e by the statement's own rule (a comprehension) -/
theorem s_letOA {i : Nat} {st : Stmt} {β α : Type} {T : Option γ} {Δ' : β → Δs} {val : β → α} {k2 : β → α → Option γ} (D0 : α → Od) (hst : PS X st (tAsg (tO true F Γ Δ T (fun b => (some (val b)).bind (k2 b)) (fun b => D0 (val b)) Δ') (gName i)))
    (hr : ∀ b a v, PSs X rest (tS F (Γ.set i (some (pV v))) (⟨v, D0 a, none⟩ :: Δ' b) N (k2 b a))) : PSs X (st :: rest) (tS F Γ Δ N T) :=
  (pss_cons hst (pss_ex fun b => pss_ex fun v => hr b (val b) v)).wk fun D σ H ⟨ok, g, e, f⟩ => ⟨ok, g, e, fun b v H' kb fz ok' => ⟨b, v, ok'.ok.set rfl, g, kb, N.mono f fz.fz⟩⟩
theorem erase_perm {α : Type} {c : α} : ∀ {l : List α} {j : Nat}, l[j]? = some c → (c :: l.eraseIdx j).Perm l
  | [], _, h => by simp at h
  | x :: l, 0, h => by
    have e : x = c := by simpa using h
    rw [e]; exact List.Perm.refl _
  | x :: l, j + 1, h => by
    have q : l[j]? = some c := by simpa using h
    exact (List.Perm.swap x c _).trans ((erase_perm q).cons x)
/-- return x, x a cell of one's own -/
theorem s_retV {e : Expr} {pos : Pos} {β ρ : Type} {T : Option γ} {Δ' : β → Δs} {P : ρ → Δs} {Ro : ρ → Od} {ι : ρ → γ} {rv : β → ρ} {v : V} (j : Nat) (hN : ∀ H r D, N.fin H (ι r) D → RO F P Ro r D.rt) (he : PE X e (tE true F Γ Δ T (fun b => some (ι (rv b))) (fun _ => pV v) Δ'))
    (hj : ∀ b, (Δ' b)[j]? = some ⟨v, Ro (rv b), none⟩) (hP : ∀ b, (P (rv b)).Sublist ((Δ' b).eraseIdx j)) : PSs X [.Return (some e) pos] (tS F Γ Δ N T) :=
  (pss_one (ps_ret he)).wk fun D σ H ⟨ok, g, e, f⟩ => ⟨ok, g, e, fun b w H' kb fz ok' hw => by
    have eg : g = ι (rv b) := (Option.some.inj kb).symm
    rw [eg] at f
    have hw : w = v := hw
    subst hw
    exact hN _ _ D f w H' ((ok'.hk.perm (erase_perm (hj b)).symm).less ((hP b).cons₂ _))⟩
end
end L3
end
section
set_option Elab.async false
set_option linter.all false
set_option maxRecDepth 100000
set_option maxHeartbeats 4000000
namespace L3
open PySem PySem.Spec PyProof.Rows L2
section
variable {X : Cx} {W : Bool} {F : Fm} {Γ : Gm} {Δ : Δs} {γ : Type}
section
variable {a : Expr} {pos : Pos} {β : Type} {T : Option γ} {k : β → Option γ} {Δ1 : β → Δs} {i : β → Int}
theorem x_neg (ha : PE X a (tE W F Γ Δ T k (fun b => pInt (i b)) Δ1)) : PE X (.UnaryOp .USub a pos) (tE W F Γ Δ T k (fun b => pInt (-(i b))) Δ1) :=
  x1t (u_un un_neg) ha fun b σ v H Q _ hv q => ⟨i b, hv, q _ rfl⟩
end
section
variable {a b : Expr} {pos : Pos} {β1 β2 : Type} {T : Option γ} {k1 : β1 → Option γ} {k : β1 × β2 → Option γ} {Δ1 : β1 → Δs} {Δ2 : β1 → β2 → Δs} {i : β1 → Str} {j : β1 → β2 → Str}
theorem x_addS (ha : PE X a (tE W F Γ Δ T k1 (fun b => pStr (i b)) Δ1)) (hb : ∀ b1, PE X b (tE W F Γ (Δ1 b1) (k1 b1) (fun b2 => grd ((i b1).length + (j b1 b2).length ≤ sizeLine) (k (b1, b2))) (fun b => pStr (j b1 b)) (Δ2 b1))) :
    PE X (.BinOp a .Add b pos) (tE W F Γ Δ T k (fun b => pStr (i b.1 ++ j b.1 b.2)) fun b => Δ2 b.1 b.2) :=
  x2g (b_op op_add_str) ha hb fun b1 b2 _ v w H Q _ c hv hw q => ⟨i b1, j b1 b2, hv, hw, c, q _ rfl⟩
end
/-- None | a value as a maybe -/
theorem co_none {α β : Type} {E : α → Pd} {e : Expr} {T : Option γ} {k : β → Option γ} {Δ' : β → Δs} (he : PE X e (tE W F Γ Δ T k (fun _ => pNon) Δ')) : PE X e (tE W F Γ Δ T k (fun _ => pOp E (none : Option α)) Δ') := he
theorem co_some {α β : Type} {E : α → Pd} {x : β → α} {e : Expr} {T : Option γ} {k : β → Option γ} {Δ' : β → Δs} (he : PE X e (tE W F Γ Δ T k (fun b => E (x b)) Δ')) : PE X e (tE W F Γ Δ T k (fun b => pOp E (some (x b))) Δ') := he
def oSel {α β : Type} (o : Option α) (a b : β) : β := match o with
  | none => a
  | some _ => b
theorem tyOp {α : Type} {E : α → Pd} {t : String} {o : Option α} (h : ∀ x, TyP Δ (E x) t) : TyP Δ (pOp E o) (oSel o "NoneType" t) := by
  cases o with
  | none => exact tyNon
  | some x => exact h x
theorem kitOp {α : Type} {a b c : String} {r q : Bool} {o : Option α} (h1 : kitB a c = some r) (h2 : kitB b c = some q) : kitB (oSel o a b) c = some (oSel o r q) := by cases o <;> assumption
def opV : Option Int → V
  | none => .non
  | some i => .int i
def opS : Option Str → V
  | none => .non
  | some i => .str i
def flOpI : Flat (pOp pInt) := ⟨opV, fun {x H v} h => by cases x <;> exact h, fun {x H} => by cases x <;> rfl, fun x => by cases x <;> rfl, fun x y => by
  cases x with
  | none => cases y <;> rfl
  | some a => cases y with
    | none => rfl
    | some b => show (a == b) = _; by_cases h : a = b <;> simp [h]⟩
def flOpS : Flat (pOp pStr) := ⟨opS, fun {x H v} h => by cases x <;> exact h, fun {x H} => by cases x <;> rfl, fun x => by cases x <;> rfl, fun x y => by
  cases x with
  | none => cases y <;> rfl
  | some a => cases y with
    | none => rfl
    | some b => show (a == b) = _; by_cases h : a = b <;> simp [h]⟩
section
variable {a b : Expr} {pos : Pos} {β1 β2 : Type} {T : Option γ} {k1 : β1 → Option γ} {k : β1 × β2 → Option γ} {Δ1 : β1 → Δs} {Δ2 : β1 → β2 → Δs} {i : β1 → Option Int} {j : β1 → β2 → Option Int} {c : β1 → Option Str} {d : β1 → β2 → Option Str}
theorem scOI (x y : Option Int) : scal (flOpI.mp x) (flOpI.mp y) = true := by cases x <;> cases y <;> rfl
theorem scOS (x y : Option Str) : scal (flOpS.mp x) (flOpS.mp y) = true := by cases x <;> cases y <;> rfl
theorem inOI (x y : Option Int) (h : flOpI.mp x = flOpI.mp y) : x = y := by cases x <;> cases y <;> first | rfl | (cases h; done) | (cases h; rfl)
theorem inOS (x y : Option Str) (h : flOpS.mp x = flOpS.mp y) : x = y := by cases x <;> cases y <;> first | rfl | (cases h; done) | (cases h; rfl)
theorem x_eqOI (ha : PE X a (tE W F Γ Δ T k1 (fun b => pOp pInt (i b)) Δ1)) (hb : ∀ b1, PE X b (tE W F Γ (Δ1 b1) (k1 b1) (fun b2 => k (b1, b2)) (fun b => pOp pInt (j b1 b)) (Δ2 b1))) : PE X (.Compare a [.Eq] [b] pos) (tE W F Γ Δ T k (fun b => pBl (decide (i b.1 = j b.1 b.2))) fun b => Δ2 b.1 b.2) := x2t (b_cmp op_eq (nomark _)) ha hb (v_eqF flOpI scOI inOI)
theorem x_neOI (ha : PE X a (tE W F Γ Δ T k1 (fun b => pOp pInt (i b)) Δ1)) (hb : ∀ b1, PE X b (tE W F Γ (Δ1 b1) (k1 b1) (fun b2 => k (b1, b2)) (fun b => pOp pInt (j b1 b)) (Δ2 b1))) : PE X (.Compare a [.NotEq] [b] pos) (tE W F Γ Δ T k (fun b => pBl (!decide (i b.1 = j b.1 b.2))) fun b => Δ2 b.1 b.2) := x2t (b_cmp op_ne (nomark _)) ha hb (v_neF flOpI scOI inOI)
theorem t_eqOI (ha : PE X a (tE W F Γ Δ T k1 (fun b => pOp pInt (i b)) Δ1)) (hb : ∀ b1, PE X b (tE W F Γ (Δ1 b1) (k1 b1) (fun b2 => k (b1, b2)) (fun b => pOp pInt (j b1 b)) (Δ2 b1))) : PT X (.Compare a [.Eq] [b] pos) (tTs W F Γ Δ T k (fun b => decide (i b.1 = j b.1 b.2)) fun b => Δ2 b.1 b.2) := t2t (bt_cmp op_eq (nomark _)) ha hb (v_eqF flOpI scOI inOI)
theorem t_neOI (ha : PE X a (tE W F Γ Δ T k1 (fun b => pOp pInt (i b)) Δ1)) (hb : ∀ b1, PE X b (tE W F Γ (Δ1 b1) (k1 b1) (fun b2 => k (b1, b2)) (fun b => pOp pInt (j b1 b)) (Δ2 b1))) : PT X (.Compare a [.NotEq] [b] pos) (tTs W F Γ Δ T k (fun b => !decide (i b.1 = j b.1 b.2)) fun b => Δ2 b.1 b.2) := t2t (bt_cmp op_ne (nomark _)) ha hb (v_neF flOpI scOI inOI)
theorem x_eqOS (ha : PE X a (tE W F Γ Δ T k1 (fun b => pOp pStr (c b)) Δ1)) (hb : ∀ b1, PE X b (tE W F Γ (Δ1 b1) (k1 b1) (fun b2 => k (b1, b2)) (fun b => pOp pStr (d b1 b)) (Δ2 b1))) : PE X (.Compare a [.Eq] [b] pos) (tE W F Γ Δ T k (fun b => pBl (decide (c b.1 = d b.1 b.2))) fun b => Δ2 b.1 b.2) := x2t (b_cmp op_eq (nomark _)) ha hb (v_eqF flOpS scOS inOS)
theorem x_neOS (ha : PE X a (tE W F Γ Δ T k1 (fun b => pOp pStr (c b)) Δ1)) (hb : ∀ b1, PE X b (tE W F Γ (Δ1 b1) (k1 b1) (fun b2 => k (b1, b2)) (fun b => pOp pStr (d b1 b)) (Δ2 b1))) : PE X (.Compare a [.NotEq] [b] pos) (tE W F Γ Δ T k (fun b => pBl (!decide (c b.1 = d b.1 b.2))) fun b => Δ2 b.1 b.2) := x2t (b_cmp op_ne (nomark _)) ha hb (v_neF flOpS scOS inOS)
theorem t_eqOS (ha : PE X a (tE W F Γ Δ T k1 (fun b => pOp pStr (c b)) Δ1)) (hb : ∀ b1, PE X b (tE W F Γ (Δ1 b1) (k1 b1) (fun b2 => k (b1, b2)) (fun b => pOp pStr (d b1 b)) (Δ2 b1))) : PT X (.Compare a [.Eq] [b] pos) (tTs W F Γ Δ T k (fun b => decide (c b.1 = d b.1 b.2)) fun b => Δ2 b.1 b.2) := t2t (bt_cmp op_eq (nomark _)) ha hb (v_eqF flOpS scOS inOS)
theorem t_neOS (ha : PE X a (tE W F Γ Δ T k1 (fun b => pOp pStr (c b)) Δ1)) (hb : ∀ b1, PE X b (tE W F Γ (Δ1 b1) (k1 b1) (fun b2 => k (b1, b2)) (fun b => pOp pStr (d b1 b)) (Δ2 b1))) : PT X (.Compare a [.NotEq] [b] pos) (tTs W F Γ Δ T k (fun b => !decide (c b.1 = d b.1 b.2)) fun b => Δ2 b.1 b.2) := t2t (bt_cmp op_ne (nomark _)) ha hb (v_neF flOpS scOS inOS)
end
/-! leaves where the mirror is known -/
section
variable {T : Option γ}
theorem y_var (i : Nat) {x : Str} {pos : Pos} {p : Pd} (h : Γ[i]? = some (some p) := by rfl) (hN : X.N[i]? = some x := by rfl) (hv : Vis X.env.scope x := by first | exact Or.inl rfl | exact Or.inr (Or.inl rfl) | exact Or.inr (Or.inr rfl))
    (hd : (x == ("__debug__" : Str)) = false := by decide) (hcd : (x == ("__classdict__" : Str)) = false := by decide) : PE X (.Name x pos) (tE W F Γ Δ T (fun _ : Unit => T) (fun _ => p) fun _ => Δ) := x_var (k := fun _ => T) i h hN hv hd hcd
theorem y_int {i : Int} {j pos} : PE X (.Constant (.int i) j pos) (tE W F Γ Δ T (fun _ : Unit => T) (fun _ => pInt i) fun _ => Δ) := x_int (k := fun _ => T)
theorem y_bl {i : Bool} {j pos} : PE X (.Constant (.bool i) j pos) (tE W F Γ Δ T (fun _ : Unit => T) (fun _ => pBl i) fun _ => Δ) := x_bl (k := fun _ => T)
theorem y_str {i : Str} {j pos} : PE X (.Constant (.str i) j pos) (tE W F Γ Δ T (fun _ : Unit => T) (fun _ => pStr i) fun _ => Δ) := x_str (k := fun _ => T)
theorem y_non {j pos} : PE X (.Constant .none j pos) (tE W F Γ Δ T (fun _ : Unit => T) (fun _ => pNon) fun _ => Δ) := x_non (k := fun _ => T)
theorem b_nil : PA X [] (tAr W F Γ Δ T (fun _ : Unit => T) (fun _ => []) fun _ => Δ) := a_nil (k := fun _ => T)
theorem q_none : PO X none (tPo W F Γ Δ T (fun _ : Unit => T) (fun _ => none) fun _ => Δ) := p_none (k := fun _ => T)
theorem y_nil {pos : Pos} {α : Type} (Ee : α → Pd) : PE X (.List [] pos) (tO W F Γ Δ T (fun _ : Unit => T) (fun _ => oL Ee []) fun _ => Δ) := x_nil (k := fun _ => T) Ee
end
end
end L3
end
section
set_option Elab.async false
set_option linter.all false
set_option maxRecDepth 100000
set_option maxHeartbeats 4000000
namespace L3
open PySem PySem.Spec PyProof.Rows L2
section
variable {X : Cx} {W : Bool} {F : Fm} {Γ : Gm} {Δ : Δs} {γ : Type}
/-- the mirror, the kind and the cells flow up from below, and are compared at the end -/
theorem x_out {β : Type} {e : Expr} {T T' : Option γ} {k : β → Option γ} {E E' : β → Pd} {Δ' Δ'' : β → Δs} (h : PE X e (tE W F Γ Δ T' k E' Δ''))
    (hT : T = T' := by rfl) (hE : ∀ b, E b = E' b := by intro _; rfl) (hΔ : ∀ b, Δ' b = Δ'' b := by intro _; rfl) : PE X e (tE W F Γ Δ T k E Δ') := by
  have e1 : E = E' := funext hE
  have e2 : Δ' = Δ'' := funext hΔ
  subst hT e1 e2
  exact h
theorem t_out {β : Type} {e : List Expr} {T T' : Option γ} {k : β → Option γ} {c c' : β → Bool} {Δ' Δ'' : β → Δs} (h : PTs X e (tTs W F Γ Δ T' k c' Δ''))
    (hT : T = T' := by rfl) (hE : ∀ b, c b = c' b := by intro _; rfl) (hΔ : ∀ b, Δ' b = Δ'' b := by intro _; rfl) : PTs X e (tTs W F Γ Δ T k c Δ') := by
  have e1 : c = c' := funext hE
  have e2 : Δ' = Δ'' := funext hΔ
  subst hT e1 e2
  exact h
theorem x_kd {β : Type} {e : Expr} {T : Option γ} {k : β → Option γ} {E E' : β → Pd} {Δ' : β → Δs} (h : PE X e (tE W F Γ Δ T k E' Δ')) (hE : ∀ b, E b = E' b := by intro _; rfl) : PE X e (tE W F Γ Δ T k E Δ') := by
  have e1 : E = E' := funext hE
  subst e1
  exact h
theorem o_kd {β : Type} {e : Expr} {T : Option γ} {k : β → Option γ} {E E' : β → Od} {Δ' : β → Δs} (h : PE X e (tO W F Γ Δ T k E' Δ')) (hE : ∀ b, E b = E' b := by intro _; rfl) : PE X e (tO W F Γ Δ T k E Δ') := by
  have e1 : E = E' := funext hE
  subst e1
  exact h
theorem t_kd {β : Type} {e : Expr} {T : Option γ} {k : β → Option γ} {c c' : β → Bool} {Δ' : β → Δs} (h : PT X e (tTs W F Γ Δ T k c' Δ')) (hE : ∀ b, c b = c' b := by intro _; rfl) : PT X e (tTs W F Γ Δ T k c Δ') := by
  have e1 : c = c' := funext hE
  subst e1
  exact h
theorem s_T {st : List Stmt} {N : Fn γ} {T T' : Option γ} (h : PSs X st (tS F Γ Δ N T')) (hT : T = T' := by rfl) : PSs X st (tS F Γ Δ N T) := by
  subst hT
  exact h
theorem t_totV {β : Type} {e : Expr} {T : Option γ} {c : β → Bool} {Δ' : β → Δs} (c0 : Bool) (b0 : β) (hβ : ∀ b, b = b0) (he : PT X e (tTs W F Γ Δ T (fun _ : β => T) c Δ')) (hΔ : Δ = Δ' b0 := by rfl) (hc : c0 = c b0 := by rfl) : PT X e (tTs W F Γ Δ T (fun _ : Unit => T) (fun _ => c0) fun _ => Δ) := by
  have h := t_tot b0 hβ he
  rw [← hc, ← hΔ] at h
  exact h
theorem x_totV {β : Type} {e : Expr} {T : Option γ} {E : β → Pd} {Δ' : β → Δs} (E0 : Pd) (b0 : β) (hβ : ∀ b, b = b0) (he : PE X e (tE W F Γ Δ T (fun _ : β => T) E Δ')) (hΔ : Δ = Δ' b0 := by rfl) (hc : E0 = E b0 := by rfl) : PE X e (tE W F Γ Δ T (fun _ : Unit => T) (fun _ => E0) fun _ => Δ) := by
  have h := x_tot b0 hβ he
  rw [← hc, ← hΔ] at h
  exact h
end
end L3
end
section
set_option Elab.async false
set_option linter.all false
set_option maxRecDepth 100000
set_option maxHeartbeats 4000000
namespace L3
open PySem PySem.Spec PyProof.Rows L2
/-- the law's script: a list of integers that nobody changes, locked or kept by the head -/
def pS (K : PySem.W.Frag) (xs : List Int) : Pd where
  pr H v := ∃ a, v = .ref a ∧ xs.length ≤ sizeLine ∧ ((∃ o, H a = some (.frz o (.lst (xs.map V.int)))) ∨ ∃ (o : Obj) (its : Array Value) (n : Nat), K.lookup a = some o ∧ o.cls = .type "list" ∧ o.dict = none ∧ o.data = .seq its n ∧ its.size ≤ sizeLine ∧ Vals (xs.map V.int) its.toList)
  mono := fun f ⟨a, e, z, h⟩ => ⟨a, e, z, h.imp (fun ⟨o, h⟩ => ⟨o, f _ _ trivial h⟩) id⟩
theorem pS_sq {K : PySem.W.Frag} {xs : List Int} {H : Hp} {v : V} (h : (pS K xs).pr H v) : ∃ a, v = .ref a ∧ SqL K H a (xs.map V.int) ∧ xs.length ≤ sizeLine := by
  obtain ⟨a, e, z, h⟩ := h
  refine ⟨a, e, ?_, z⟩
  rcases h with ⟨o, h⟩ | h
  · exact .inl (.inr ⟨o, h⟩)
  · exact .inr h
theorem pS_of {K : PySem.W.Frag} {xs : List Int} {H : Hp} {v : V} (h : (pL pInt xs).pr H v) : (pS K xs).pr H v := by
  obtain ⟨a, o, vs, e, h, z, p⟩ := h
  rw [paired_ints p] at h
  exact ⟨a, e, z, .inl ⟨o, h⟩⟩
section
variable {X : Cx} {W : Bool} {F : Fm} {Γ : Gm} {Δ : Δs} {γ : Type}
section
variable {a b : Expr} {pos : Pos} {β1 β2 : Type} {T : Option γ} {k1 : β1 → Option γ} {Δ1 : β1 → Δs} {Δ2 : β1 → β2 → Δs} {xs : β1 → List Int} {j : β1 → β2 → Int}
theorem x_ixS {k : (β1 × β2) × Int → Option γ} (ha : PE X a (tE W F Γ Δ T k1 (fun b => pS X.K (xs b)) Δ1)) (hb : ∀ b1, PE X b (tE W F Γ (Δ1 b1) (k1 b1) (fun b2 => (atI (xs b1) (j b1 b2)).bind fun x => k ((b1, b2), x)) (fun b => pInt (j b1 b)) (Δ2 b1)))
    (hs : PlainIx b := by exact fun _ _ => rfl) : PE X (.Subscript a b pos) (tE W F Γ Δ T k (fun b => pInt b.2) fun b => Δ2 b.1.1 b.1.2) :=
  x2p (b_ix ix_list hs) ha hb fun b1 b2 x σ v w H Q ok e hv hw q => by
    obtain ⟨p, ev, sq, _⟩ := pS_sq hv
    obtain ⟨u, eu, pu⟩ := paired_atI (ints_paired (H := H) (xs b1)) e
    exact ⟨p, _, j b1 b2, u, ev, hw, sq, eu, q u pu⟩
end
section
variable {a : Expr} {pos p : Pos} {β : Type} {T : Option γ} {Δ1 : β → Δs} {xs : β → List Int} {k : β → Option γ}
theorem x_lenS (hm : X.mg "len" = none) (ha : PE X a (tE W F Γ Δ T k (fun b => pS X.K (xs b)) Δ1)) (hg : Gl X "len" := by rfl) (hs : starEach [a] X.env = (false, eval a X.env) :: starEach [] X.env := by rfl) : PE X (.Call (.Name "len" p) [a] [] pos) (tE W F Γ Δ T k (fun b => pInt ((xs b).length : Int)) Δ1) :=
  x1t (u_callB call_len_seq hg hm PySem.boot_len (by decide) (by decide) hs) ha fun b σ v H Q ok hv q => by
    obtain ⟨p, ev, sq, _⟩ := pS_sq hv
    rw [ev]
    exact ⟨p, _, rfl, .inl sq, by rw [List.length_map]; exact q _ rfl⟩
end
end

def Sp_S (K : PySem.W.Frag) (Mf : List Int → Option Bool) : Sp := fun vs H Q _ => ∃ (a : Addr) (ns : List Int), vs = [.ref a] ∧ ns.length ≤ sizeLine ∧ SqL K H a (ns.map V.int) ∧ ∃ r, Mf ns = some r ∧ ∀ H', Q (.bl r) H'
theorem fn_S {P : Program} {w : World} {K : PySem.W.Frag} {mg : Str → Option Value} {base : Heap} {x qual : Str} {params : Arguments} {body : List Stmt} {scope : Scope} {dvs : List V} {kws : List (Str × V)} {f : Addr} {fd : FuncData} {N ps : List Str} {k : Nat} {Mf : List Int → Option Bool}
    (FD : FunD K x qual params body scope dvs kws f fd) (S : FnScope N ps scope) (hl : 1 = ps.length)
    (hb : ∀ (cdv : Value) (A : Around) (outer : List Env) (s : Shared) (H : Hp) (E : XK) (hr : Room k (A.deeper (envOfC qual scope s.heap.objs.size f cdv))) (M : List (List Addr)) (a1 : List Int), PSs (cxOf CX0 P w K mg base N qual scope f cdv A outer s H E).nox body
      (tS ⟨H, M⟩ (([pS K a1] : List Pd).map some ++ List.replicate (N.length - 1) none) [] (fF (RF ⟨H, M⟩ (fun _ => []) pBl)) (Mf a1))) : FnOk P w K mg base CX0 (k + 1) f fd ps (Sp_S K Mf) := by
  refine FD.ok S (fun vs H Q E h => ?_) (fun cdv A outer s H vs Q E hr h => ?_)
  · obtain ⟨a, ns, rfl, _⟩ := h
    exact hl
  · obtain ⟨a, ns, rfl, z, sq, r, hM, fin⟩ := h
    have fin' : ∀ M, RF ⟨H, M⟩ (fun _ => []) pBl r Q := fun M v H' _ hv => by
      rw [show v = .bl r from hv]
      exact fin H'
    by_cases hu : H a = some (.lst (ns.map V.int))
    · refine ⟨tS ⟨H, [[a]]⟩ (([pV (.ref a)] : List Pd).map some ++ List.replicate (N.length - 1) none) [⟨.ref a, oL pInt ns, some 0⟩] (fF (RF ⟨H, [[a]]⟩ (fun _ => []) pBl)) (Mf ns), PSs.nox (s_frz (i := 0) (c := ⟨.ref a, oL pInt ns, some 0⟩) 0 ?_), ok_start (Δ := [⟨[a], .ref a, oL pInt ns, some 0⟩]) rfl (.cons rfl .nil) ?_ ?_ ?_, r, hM, fin' _⟩
      · refine (hb cdv A outer s H E hr [[a]] ns).wk fun D σ H' ⟨ok, g, e, q⟩ => ⟨⟨ok.hk, ok.len, fun i p e => ?_⟩, g, e, q⟩
        cases i with
        | zero =>
          cases e
          obtain ⟨v, hs, hv⟩ := ok.gam 0 (pL pInt ns) rfl
          exact ⟨v, hs, pS_of hv⟩
        | succ i => exact ok.gam (i + 1) p e
      · intro c hc
        rw [List.mem_singleton.mp hc]
        exact ⟨a, ns.map V.int, rfl, rfl, hu, z, ints_paired ns⟩
      · exact List.nodup_cons.mpr ⟨by simp, List.nodup_nil⟩
      · intro i c h
        match i, h with
        | 0, h => cases h; rfl
        | _ + 1, h => cases h
    · refine ⟨_, PSs.nox (hb cdv A outer s H E hr [] ns), ok_start (Δ := []) rfl (.cons ⟨a, rfl, z, ?_⟩ .nil) (fun _ h => nomatch h) List.nodup_nil (fun _ _ h => nomatch h), r, hM, fin' _⟩
      rcases sq with (h | ⟨o, h⟩) | h
      · exact absurd h hu
      · exact .inl ⟨o, h⟩
      · exact .inr h
end L3
end
section
set_option Elab.async false
set_option linter.all false
set_option maxRecDepth 100000
set_option maxHeartbeats 4000000
namespace L3
open PySem PySem.Spec PyProof.Rows L2
/-! ### dicts: keys are texts or integers -/
class Ky (κ : Type) where
  ky : κ → Key
  kp : κ → Pd
  inj : ∀ {x y : κ}, ky x = ky y → x = y
  is : ∀ {x : κ} {H : Hp} {v : V}, (kp x).pr H v → v = kV (ky x)
  of : ∀ (x : κ) (H : Hp), (kp x).pr H (kV (ky x))
@[reducible] instance kyS : Ky Str := { ky := .inr, kp := pStr, inj := fun h => Sum.inr.inj h, is := fun h => h, of := fun _ _ => rfl }
@[reducible] instance kyI : Ky Int := { ky := .inl, kp := pInt, inj := fun h => Sum.inl.inj h, is := fun h => h, of := fun _ _ => rfl }
section
variable {κ α : Type} [DecidableEq κ]
def dget (d : List (κ × α)) (k : κ) : Option α := (d.find? fun p => decide (p.1 = k)).map (·.2)
def dhas (d : List (κ × α)) (k : κ) : Bool := d.any fun p => decide (p.1 = k)
def dput (d : List (κ × α)) (k : κ) (v : α) : List (κ × α) := if (d.any fun p => decide (p.1 = k)) = true then d.map (fun p => if p.1 = k then (p.1, v) else p) else d ++ [(k, v)]
def ddel (d : List (κ × α)) (k : κ) : List (κ × α) := d.filter fun p => decide (p.1 ≠ k)
theorem dhas_get (k : κ) : ∀ d : List (κ × α), dhas d k = (dget d k).isSome
  | [] => rfl
  | p :: r => by
    have ih := dhas_get k r
    unfold dhas dget at ih ⊢
    rw [List.any_cons, List.find?_cons]
    by_cases h : p.1 = k
    · simp [h]
    · simp only [decide_eq_false h, Bool.false_or]; exact ih
theorem dput_len (d : List (κ × α)) (k : κ) (v : α) : (dput d k v).length ≤ d.length + 1 := by
  unfold dput
  split
  · rw [List.length_map]; omega
  · rw [List.length_append]; exact Nat.le_refl _
theorem ddel_len (d : List (κ × α)) (k : κ) : (ddel d k).length ≤ d.length := List.length_filter_le _ _
end
section
variable {κ α : Type} [DecidableEq κ] [Ky κ]
/-- pairs and what stands for them -/
abbrev PrM (E : α → Pd) (H : Hp) (x : κ × α) (u : Key × V) : Prop := u.1 = Ky.ky x.1 ∧ (E x.2).pr H u.2
theorem prM_mono {E : α → Pd} {H H' : Hp} (f : Fzs H H') {xs : List (κ × α)} {us : List (Key × V)} (p : Paired (PrM E H) xs us) : Paired (PrM E H') xs us := paired_mono (fun x _ q => ⟨q.1, (E x.2).mono f q.2⟩) p
def pM (E : α → Pd) (xs : List (κ × α)) : Pd where
  pr H v := ∃ a o kvs, v = .ref a ∧ H a = some (.frz o (.dK kvs)) ∧ xs.length ≤ sizeLine ∧ Paired (PrM E H) xs kvs
  mono := fun f ⟨a, o, vs, e, h, z, p⟩ => ⟨a, o, vs, e, f _ _ trivial h, z, prM_mono f p⟩
def oM (E : α → Pd) (xs : List (κ × α)) : Od where
  pr G H v := ∃ p kvs, G = [p] ∧ v = .ref p ∧ H p = some (.dK kvs) ∧ xs.length ≤ sizeLine ∧ Paired (PrM E H) xs kvs
  pd := pM E xs
  frame := fun ⟨p, vs, eg, ev, h, z, q⟩ k f => ⟨p, vs, eg, ev, k p (by rw [eg]; exact List.mem_singleton.mpr rfl) _ h, z, prM_mono f q⟩
  cells := fun ⟨p, vs, eg, ev, h, z, q⟩ => one_cells eg h trivial
  lockd := fun ⟨p, vs, eg, ev, h, z, q⟩ h1 h2 => by
    obtain ⟨o, ho⟩ := h2 p (by rw [eg]; exact List.mem_singleton.mpr rfl) _ h
    exact ⟨p, o, vs, ev, ho, z, prM_mono (lk_fzs (one_cells eg h trivial) h1) q⟩
theorem dget_neg {κ α : Type} [DecidableEq κ] {p : κ × α} {r : List (κ × α)} {k : κ} (h : ¬ p.1 = k) : dget (p :: r) k = dget r k := by unfold dget; rw [List.find?_cons, decide_eq_false h]
theorem dget_pos {κ α : Type} [DecidableEq κ] {p : κ × α} {r : List (κ × α)} {k : κ} (h : p.1 = k) : dget (p :: r) k = some p.2 := by unfold dget; rw [List.find?_cons, decide_eq_true h]; rfl
theorem prM_get {E : α → Pd} {H : Hp} (k : κ) : ∀ {xs : List (κ × α)} {us : List (Key × V)}, Paired (PrM E H) xs us → (dget xs k = none ∧ valV us (Ky.ky k) = none) ∨ ∃ x v, dget xs k = some x ∧ valV us (Ky.ky k) = some v ∧ (E x).pr H v
  | [], [], .nil => .inl ⟨rfl, rfl⟩
  | x :: xs, u :: us, .cons r t => by
    by_cases h : x.1 = k
    · exact .inr ⟨x.2, u.2, dget_pos h, valV_pos (by rw [r.1, h]), r.2⟩
    · rw [dget_neg h, valV_neg (fun z => h (Ky.inj (by rw [← r.1, z])))]
      exact prM_get k t
theorem prM_any {E : α → Pd} {H : Hp} (k : κ) : ∀ {xs : List (κ × α)} {us : List (Key × V)}, Paired (PrM E H) xs us → (xs.any fun p => decide (p.1 = k)) = us.any fun kv => decide (kv.1 = Ky.ky k)
  | _, _, .nil => rfl
  | _, _, .cons (a := x) (b := u) r t => by
    rw [List.any_cons, List.any_cons, prM_any k t]
    congr 1
    by_cases h : x.1 = k
    · rw [decide_eq_true h, decide_eq_true (by rw [r.1, h])]
    · rw [decide_eq_false h, decide_eq_false (fun z => h (Ky.inj (by rw [← r.1, z])))]
theorem prM_map {E : α → Pd} {H : Hp} {k : κ} {y : α} {v : V} (hv : (E y).pr H v) : ∀ {xs : List (κ × α)} {us : List (Key × V)}, Paired (PrM E H) xs us → Paired (PrM E H) (xs.map fun p => if p.1 = k then (p.1, y) else p) (us.map fun kv => if kv.1 = Ky.ky k then (kv.1, v) else kv)
  | _, _, .nil => .nil
  | _, _, .cons (a := x) (b := u) r t => by
    rw [List.map_cons, List.map_cons]
    refine .cons ?_ (prM_map hv t)
    by_cases h : x.1 = k
    · rw [if_pos h, if_pos (by rw [r.1, h])]
      exact ⟨r.1, hv⟩
    · rw [if_neg h, if_neg (fun z => h (Ky.inj (by rw [← r.1, z])))]
      exact r
theorem prM_put {E : α → Pd} {H : Hp} {k : κ} {y : α} {v : V} (hv : (E y).pr H v) {xs : List (κ × α)} {us : List (Key × V)} (h : Paired (PrM E H) xs us) : Paired (PrM E H) (dput xs k y) (putK us (Ky.ky k) v) := by
  unfold dput putK
  rw [prM_any k h]
  split
  · exact prM_map hv h
  · exact paired_app h (.cons ⟨rfl, hv⟩ .nil)
theorem prM_del {E : α → Pd} {H : Hp} (k : κ) : ∀ {xs : List (κ × α)} {us : List (Key × V)}, Paired (PrM E H) xs us → Paired (PrM E H) (ddel xs k) (dropK us (Ky.ky k))
  | _, _, .nil => .nil
  | _, _, .cons (a := x) (b := u) r t => by
    have ih := prM_del k t
    unfold ddel dropK at ih ⊢
    rw [List.filter_cons, List.filter_cons]
    by_cases h : x.1 = k
    · rw [if_neg (by simp [h]), if_neg (by simp [r.1, h])]
      exact ih
    · rw [if_pos (by simp [h]), if_pos (by simp only [decide_eq_true_eq]; exact fun z => h (Ky.inj (by rw [← r.1, z])))]
      exact .cons r ih
theorem prM_keys {E : α → Pd} {H : Hp} : ∀ {xs : List (κ × α)} {us : List (Key × V)}, Paired (PrM E H) xs us → us.map (·.1) = xs.map fun p => Ky.ky p.1
  | _, _, .nil => rfl
  | _, _, .cons r t => by rw [List.map_cons, List.map_cons, prM_keys t, r.1]
theorem prM_keyP {E : α → Pd} {H H' : Hp} : ∀ {xs : List (κ × α)} {us : List (Key × V)}, Paired (PrM E H) xs us → Paired (fun (x : κ) u => (Ky.kp x).pr H' u) (xs.map Prod.fst) (us.map fun kv => kV kv.1)
  | _, _, .nil => .nil
  | _, _, .cons r t => by
    rw [List.map_cons, List.map_cons]
    refine .cons ?_ (prM_keyP t)
    rw [r.1]
    exact Ky.of _ _
end
section
variable {X : Cx} {W : Bool} {F : Fm} {Γ : Gm} {Δ : Δs} {γ : Type} {κ α : Type} [DecidableEq κ] [Ky κ]
/-! ### dicts that are read: locked, or a cell of one's own -/
def RM (E : α → Pd) (xs : List (κ × α)) (H : Hp) (v : V) : Prop := ∃ a kvs, v = .ref a ∧ Rd H a (.dK kvs) ∧ xs.length ≤ sizeLine ∧ Paired (PrM E H) xs kvs
def RdM (Δ : Δs) (p : Pd) (E : α → Pd) (xs : List (κ × α)) : Prop := ∀ F H v, Hk F Δ H → p.pr H v → RM E xs H v
theorem rdMF {E : α → Pd} {xs : List (κ × α)} : RdM Δ (pM E xs) E xs := fun _ _ _ _ ⟨a, o, vs, e, h, z, p⟩ => ⟨a, vs, e, .inr ⟨o, h⟩, z, p⟩
theorem rdMO {E : α → Pd} {xs : List (κ × α)} {v : V} {prm : Option Nat} (j : Nat) (h : Δ[j]? = some ⟨v, oM E xs, prm⟩ := by rfl) : RdM Δ (pV v) E xs := fun F H w hk e => by
  have e : w = v := e
  subst e
  obtain ⟨_, p, vs, _, ev, hp, z, q⟩ := hk.at h
  exact ⟨p, vs, ev, .inl hp, z, q⟩
/-- a new dict -/
theorem Ok.newM {σ : SS} {H : Hp} {p : Addr} {E : α → Pd} {xs : List (κ × α)} {kvs : List (Key × V)} (ok : Ok F Γ Δ σ H) (hp : H p = none) (z : xs.length ≤ sizeLine) (q : Paired (PrM E H) xs kvs) : OkN W F Γ H (.ref p) (oM E xs) Δ σ (upd H p (.dK kvs)) ∧ Gr H (upd H p (.dK kvs)) := by
  have g : Gr H (upd H p (.dK kvs)) := Gr.new hp
  exact ⟨ok.add g (List.nodup_cons.mpr ⟨List.not_mem_nil, List.nodup_nil⟩) (fun a ha => by rw [List.mem_singleton.mp ha]; exact hp) ⟨p, kvs, rfl, rfl, upd_same, z, prM_mono g.fzs q⟩, g⟩
section
variable {a b : Expr} {pos : Pos} {β1 β2 : Type} {T : Option γ} {k1 : β1 → Option γ} {Δ1 : β1 → Δs} {Δ2 : β1 → β2 → Δs} {E1 : β1 → Pd} {Ee : α → Pd} {xs : β1 → β2 → List (κ × α)} {j : β1 → β2 → κ}
/-- d[k] -/
theorem x_dget {k : (β1 × β2) × α → Option γ} (hu : X.A.units + 64 < cLine) (ha : PE X a (tE W F Γ Δ T k1 E1 Δ1)) (hb : ∀ b1, PE X b (tE W F Γ (Δ1 b1) (k1 b1) (fun b2 => (dget (xs b1 b2) (j b1 b2)).bind fun x => k ((b1, b2), x)) (fun b => Ky.kp (j b1 b)) (Δ2 b1)))
    (rd : ∀ b1 b2, RdM (Δ2 b1 b2) (E1 b1) Ee (xs b1 b2)) (hs : NoSl b := by exact fun _ _ => rfl) : PE X (.Subscript a b pos) (tE W F Γ Δ T k (fun b => Ee b.2) fun b => Δ2 b.1.1 b.1.2) :=
  x2p (r := fun x y H Q => ∃ a v, x = .ref a ∧ DGet H a y (some v) ∧ Q v H) (fun _ _ ha hb => pe_dget (by omega) ha hb hs) ha hb fun b1 b2 x σ v w H Q ok e hv hw q => by
    obtain ⟨p, kvs, ev, r, _, pr⟩ := rd b1 b2 F H v ok.hk hv
    rcases prM_get (j b1 b2) pr with ⟨e0, _⟩ | ⟨x', u, e1, e2, hu⟩
    · rw [e] at e0; cases e0
    · rw [e] at e1; cases e1
      exact ⟨p, u, ev, .inl ⟨kvs, Ky.ky (j b1 b2), r, Ky.is hw, e2.symm⟩, q u hu⟩
end
section
variable {a b : Expr} {pos : Pos} {β1 β2 : Type} {T : Option γ} {k1 : β1 → Option γ} {k : β1 × β2 → Option γ} {Δ1 : β1 → Δs} {Δ2 : β1 → β2 → Δs} {E2 : β1 → β2 → Pd} {Ee : α → Pd} {xs : β1 → β2 → List (κ × α)} {i : β1 → κ}
/-- k in d -/
theorem has_of {E : α → Pd} {H : Hp} {xs : List (κ × α)} {us : List (Key × V)} (k : κ) (p : Paired (PrM E H) xs us) : (valV us (Ky.ky k)).isSome = dhas xs k := by
  rw [dhas_get]
  rcases prM_get k p with ⟨e0, e1⟩ | ⟨x, v, e0, e1, _⟩ <;> rw [e0, e1] <;> rfl
theorem x_dinG {op : CmpOp} {c : Bool → Bool} (hp : ∀ ta tb, PE X a ta → PE X b tb → PC X op a b (fun σ H Q => ta σ H fun y H1 => tb σ H1 fun x H2 => ∃ a o, x = .ref a ∧ DGet H2 a y o ∧ Q (.bl (c o.isSome)) H2)) (hm : behindInMarks op b = false)
    (ha : PE X a (tE W F Γ Δ T k1 (fun b => Ky.kp (i b)) Δ1)) (hb : ∀ b1, PE X b (tE W F Γ (Δ1 b1) (k1 b1) (fun b2 => k (b1, b2)) (E2 b1) (Δ2 b1))) (rd : ∀ b1 b2, RdM (Δ2 b1 b2) (E2 b1 b2) Ee (xs b1 b2)) :
    PE X (.Compare a [op] [b] pos) (tE W F Γ Δ T k (fun b => pBl (c (dhas (xs b.1 b.2) (i b.1)))) fun b => Δ2 b.1 b.2) :=
  x2t (r := fun y x H Q => ∃ a o, x = .ref a ∧ DGet H a y o ∧ Q (.bl (c o.isSome)) H) (fun ta tb ha hb => pe_cmp (hp ta tb ha hb) hm) ha hb fun b1 b2 σ v w H Q ok hv hw q => by
    obtain ⟨p, kvs, ev, r, _, pr⟩ := rd b1 b2 F H w ok.hk hw
    refine ⟨p, valV kvs (Ky.ky (i b1)), ev, .inl ⟨kvs, _, r, Ky.is hv, rfl⟩, ?_⟩
    rw [has_of (i b1) pr]
    exact q _ rfl
theorem t_dinG {op : CmpOp} {c : Bool → Bool} (hp : ∀ ta tb, PE X a ta → PE X b tb → PC X op a b (fun σ H Q => ta σ H fun y H1 => tb σ H1 fun x H2 => ∃ a o, x = .ref a ∧ DGet H2 a y o ∧ Q (.bl (c o.isSome)) H2)) (hm : behindInMarks op b = false)
    (ha : PE X a (tE W F Γ Δ T k1 (fun b => Ky.kp (i b)) Δ1)) (hb : ∀ b1, PE X b (tE W F Γ (Δ1 b1) (k1 b1) (fun b2 => k (b1, b2)) (E2 b1) (Δ2 b1))) (rd : ∀ b1 b2, RdM (Δ2 b1 b2) (E2 b1 b2) Ee (xs b1 b2)) :
    PT X (.Compare a [op] [b] pos) (tTs W F Γ Δ T k (fun b => c (dhas (xs b.1 b.2) (i b.1))) fun b => Δ2 b.1 b.2) :=
  t2t (r := fun y x H Q => ∃ a o, x = .ref a ∧ DGet H a y o ∧ Q (.bl (c o.isSome)) H) (fun ta tb ha hb => (pt_cmp (hp ta tb ha hb) hm).wk fun σ H Q h => h) ha hb fun b1 b2 σ v w H Q ok hv hw q => by
    obtain ⟨p, kvs, ev, r, _, pr⟩ := rd b1 b2 F H w ok.hk hw
    refine ⟨p, valV kvs (Ky.ky (i b1)), ev, .inl ⟨kvs, _, r, Ky.is hv, rfl⟩, ?_⟩
    rw [has_of (i b1) pr]
    exact q _ rfl
theorem x_din (hu : X.A.units + 64 < cLine) (ha : PE X a (tE W F Γ Δ T k1 (fun b => Ky.kp (i b)) Δ1)) (hb : ∀ b1, PE X b (tE W F Γ (Δ1 b1) (k1 b1) (fun b2 => k (b1, b2)) (E2 b1) (Δ2 b1))) (rd : ∀ b1 b2, RdM (Δ2 b1 b2) (E2 b1 b2) Ee (xs b1 b2)) (hm : behindInMarks .In b = false := by rfl) :
    PE X (.Compare a [.In] [b] pos) (tE W F Γ Δ T k (fun b => pBl (dhas (xs b.1 b.2) (i b.1))) fun b => Δ2 b.1 b.2) := x_dinG (c := id) (fun _ _ ha hb => pc_din (by omega) ha hb) hm ha hb rd
theorem x_dnin (hu : X.A.units + 64 < cLine) (ha : PE X a (tE W F Γ Δ T k1 (fun b => Ky.kp (i b)) Δ1)) (hb : ∀ b1, PE X b (tE W F Γ (Δ1 b1) (k1 b1) (fun b2 => k (b1, b2)) (E2 b1) (Δ2 b1))) (rd : ∀ b1 b2, RdM (Δ2 b1 b2) (E2 b1 b2) Ee (xs b1 b2)) (hm : behindInMarks .NotIn b = false := by rfl) :
    PE X (.Compare a [.NotIn] [b] pos) (tE W F Γ Δ T k (fun b => pBl (!dhas (xs b.1 b.2) (i b.1))) fun b => Δ2 b.1 b.2) := x_dinG (c := fun x => !x) (fun _ _ ha hb => pc_dnotin (by omega) ha hb) hm ha hb rd
theorem t_din (hu : X.A.units + 64 < cLine) (ha : PE X a (tE W F Γ Δ T k1 (fun b => Ky.kp (i b)) Δ1)) (hb : ∀ b1, PE X b (tE W F Γ (Δ1 b1) (k1 b1) (fun b2 => k (b1, b2)) (E2 b1) (Δ2 b1))) (rd : ∀ b1 b2, RdM (Δ2 b1 b2) (E2 b1 b2) Ee (xs b1 b2)) (hm : behindInMarks .In b = false := by rfl) :
    PT X (.Compare a [.In] [b] pos) (tTs W F Γ Δ T k (fun b => dhas (xs b.1 b.2) (i b.1)) fun b => Δ2 b.1 b.2) := t_dinG (c := id) (fun _ _ ha hb => pc_din (by omega) ha hb) hm ha hb rd
theorem t_dnin (hu : X.A.units + 64 < cLine) (ha : PE X a (tE W F Γ Δ T k1 (fun b => Ky.kp (i b)) Δ1)) (hb : ∀ b1, PE X b (tE W F Γ (Δ1 b1) (k1 b1) (fun b2 => k (b1, b2)) (E2 b1) (Δ2 b1))) (rd : ∀ b1 b2, RdM (Δ2 b1 b2) (E2 b1 b2) Ee (xs b1 b2)) (hm : behindInMarks .NotIn b = false := by rfl) :
    PT X (.Compare a [.NotIn] [b] pos) (tTs W F Γ Δ T k (fun b => !dhas (xs b.1 b.2) (i b.1)) fun b => Δ2 b.1 b.2) := t_dinG (c := fun x => !x) (fun _ _ ha hb => pc_dnotin (by omega) ha hb) hm ha hb rd
end
end
end L3
end
section
set_option Elab.async false
set_option linter.all false
set_option maxRecDepth 100000
set_option maxHeartbeats 4000000
namespace L3
open PySem PySem.Spec PyProof.Rows L2
/-! ### texts in order -/
theorem lt_irr : ∀ a : List Nat, ltCps a a = false
  | [] => rfl
  | x :: r => by simp [ltCps, lt_irr r]
theorem lt_tri : ∀ {a b : List Nat}, ltCps a b = false → ltCps b a = false → a = b
  | [], [], _, _ => rfl
  | [], _ :: _, h, _ => by simp [ltCps] at h
  | _ :: _, [], _, h => by simp [ltCps] at h
  | x :: r, y :: t, h1, h2 => by
    simp only [ltCps, Bool.or_eq_false_iff, decide_eq_false_iff_not, Nat.not_lt] at h1 h2
    have e : x = y := by omega
    subst e
    simp only [beq_self_eq_true, Bool.true_and] at h1 h2
    rw [lt_tri h1.2 h2.2]
theorem le_tr : ∀ {a b c : List Nat}, ltCps b a = false → ltCps c b = false → ltCps c a = false
  | [], _, [], _, _ => rfl
  | [], b, z :: c, h1, h2 => by simp [ltCps]
  | x :: a, [], _, h1, _ => by simp [ltCps] at h1
  | x :: a, y :: b, [], _, h2 => by simp [ltCps] at h2
  | x :: a, y :: b, z :: c, h1, h2 => by
    simp only [ltCps, Bool.or_eq_false_iff, decide_eq_false_iff_not, Nat.not_lt, Bool.and_eq_false_imp, beq_iff_eq] at h1 h2 ⊢
    refine ⟨by omega, fun e => ?_⟩
    have e1 : y = x := by omega
    have e2 : z = y := by omega
    exact le_tr (h1.2 e1) (h2.2 e2)
def leS (x y : Str) : Bool := !ltCps y.cps.toList x.cps.toList
theorem leS_tr {x y z : Str} (h1 : leS x y = true) (h2 : leS y z = true) : leS x z = true := by
  unfold leS at *
  simp only [Bool.not_eq_true'] at *
  exact le_tr h1 h2
theorem leS_as {x y : Str} (h1 : leS x y = true) (h2 : leS y x = true) : x = y := by
  unfold leS at *
  simp only [Bool.not_eq_true'] at *
  exact PyProof.Rows.ext_toList (lt_tri h2 h1)
theorem ltCps_as : ∀ {a b : List Nat}, ltCps a b = true → ltCps b a = false
  | [], [], h => by simp [ltCps] at h
  | [], _ :: _, _ => rfl
  | _ :: _, [], h => by simp [ltCps] at h
  | x :: r, y :: t, h => by
    simp only [ltCps, Bool.or_eq_true, decide_eq_true_eq, Bool.and_eq_true, beq_iff_eq] at h
    simp only [ltCps, Bool.or_eq_false_iff, decide_eq_false_iff_not, Nat.not_lt, Bool.and_eq_false_imp, beq_iff_eq]
    rcases h with h | ⟨e, h⟩
    · exact ⟨by omega, fun e => by omega⟩
    · exact ⟨by omega, fun _ => ltCps_as h⟩
theorem leS_tot (x y : Str) : (leS x y || leS y x) = true := by
  unfold leS
  cases h : ltCps y.cps.toList x.cps.toList with
  | false => rfl
  | true => rw [ltCps_as h]; rfl
def srtS (xs : List Str) : List Str := xs.mergeSort leS
theorem srtS_perm (xs : List Str) : (srtS xs).Perm xs := List.mergeSort_perm _ _
theorem srtS_le (xs : List Str) : (srtS xs).Pairwise fun a b => leS a b = true := List.pairwise_mergeSort (le := leS) (fun _ _ _ h1 h2 => leS_tr h1 h2) leS_tot xs
theorem sortedS_eq : ∀ {xs ys : List Str}, xs.Perm ys → (xs.Pairwise fun a b => leS a b = true) → (ys.Pairwise fun a b => leS a b = true) → xs = ys
  | [], ys, p, _, _ => (List.nil_perm.mp p).symm ▸ rfl
  | x :: xs, [], p, _, _ => (List.perm_nil.mp p)
  | x :: xs, y :: ys, p, hx, hy => by
    have rf : ∀ z : Str, leS z z = true := fun z => by unfold leS; rw [lt_irr]; rfl
    have e : x = y := by
      have m1 : x ∈ y :: ys := p.mem_iff.mp List.mem_cons_self
      have m2 : y ∈ x :: xs := p.mem_iff.mpr List.mem_cons_self
      have l1 : leS y x = true := by
        rcases List.mem_cons.mp m1 with h | h
        · rw [h]; exact rf _
        · exact (List.pairwise_cons.mp hy).1 x h
      have l2 : leS x y = true := by
        rcases List.mem_cons.mp m2 with h | h
        · rw [h]; exact rf _
        · exact (List.pairwise_cons.mp hx).1 y h
      exact leS_as l2 l1
    subst e
    rw [sortedS_eq (List.Perm.cons_inv p) (List.pairwise_cons.mp hx).2 (List.pairwise_cons.mp hy).2]
theorem rising_le : ∀ {xs : List Str} {p : Str}, risingS p xs = true → ∀ x ∈ xs, leS p x = true
  | [], _, _, _, h => by simp at h
  | y :: ys, p, h, x, hx => by
    obtain ⟨h1, h2⟩ := Bool.and_eq_true_iff.mp (show (!ltCps y.cps.toList p.cps.toList && risingS y ys) = true from h)
    rcases List.mem_cons.mp hx with e | hx
    · rw [e]; exact h1
    · exact leS_tr (y := y) h1 (rising_le h2 x hx)
theorem rising_pw : ∀ {xs : List Str} {p : Str}, risingS p xs = true → (p :: xs).Pairwise fun a b => leS a b = true
  | [], p, _ => List.pairwise_singleton _ _
  | y :: ys, p, h => by
    obtain ⟨h1, h2⟩ := Bool.and_eq_true_iff.mp (show (!ltCps y.cps.toList p.cps.toList && risingS y ys) = true from h)
    exact List.pairwise_cons.mpr ⟨rising_le h, rising_pw h2⟩
theorem srtS_uniq {xs ys : List Str} (p : ys.Perm xs) (h : sortedS ys = true) : ys = srtS xs := by
  refine sortedS_eq (p.trans (srtS_perm xs).symm) ?_ (srtS_le xs)
  cases ys with
  | nil => exact .nil
  | cons y ys => exact rising_pw h
section
variable {X : Cx} {W : Bool} {F : Fm} {Γ : Gm} {Δ : Δs} {γ : Type} {κ α : Type} [DecidableEq κ] [Ky κ]
theorem call_lenM : CallR X (.builtin "len") (fun xs H Q => ∃ a kvs, xs = [V.ref a] ∧ Rd H a (.dK kvs) ∧ Q (.int kvs.length) H) := by
  intro pins s σ H xs us Q I r h
  obtain ⟨a, kvs, rfl, ha, q⟩ := h
  obtain ⟨u, rfl, ru⟩ := vals1 r
  cases ru
  exact d_len I ha fun t s' I' => ⟨.int kvs.length, H, I', ⟨t, rfl⟩, q⟩
section
variable {e a : Expr} {r : V → Hp → VK → Prop} {β : Type} {T : Option γ} {E1 : β → Pd} {Δ1 : β → Δs}
theorem x1m {k : β → Option γ} {Ee : α → Pd} {ys : β → List (κ × α)} (h1 : Un1 X e a r) (ha : PE X a (tE W F Γ Δ T k E1 Δ1))
    (hv : ∀ b σ v H Q, Ok F Γ (Δ1 b) σ H → (E1 b).pr H v → (∀ p vs, H p = none → (ys b).length ≤ sizeLine → Paired (PrM Ee H) (ys b) vs → Q (.ref p) (upd H p (.dK vs))) → r v H Q) : PE X e (tO W F Γ Δ T k (fun b => oM Ee (ys b)) Δ1) :=
  (h1 _ ha).wk fun σ H Q ⟨ok, g, e, q⟩ => ⟨ok, g, e, fun b v H' kb f ok' hp => hv b σ v H' Q ok' hp fun p vs np z pr => by
    obtain ⟨o2, f2⟩ := ok'.newM np z pr
    exact q b _ _ kb (f.trans f2.st) (o2.since f)⟩
end
section
variable {a : Expr} {pos p : Pos} {β : Type} {T : Option γ} {Δ1 : β → Δs} {E1 : β → Pd} {Ee : α → Pd} {xs : β → List (κ × α)} {k : β → Option γ}
/-- len(d) -/
theorem x_lenM (hm : X.mg "len" = none) (ha : PE X a (tE W F Γ Δ T k E1 Δ1)) (rd : ∀ b, RdM (Δ1 b) (E1 b) Ee (xs b)) (hg : Gl X "len" := by rfl) (hs : starEach [a] X.env = (false, eval a X.env) :: starEach [] X.env := by rfl) : PE X (.Call (.Name "len" p) [a] [] pos) (tE W F Γ Δ T k (fun b => pInt ((xs b).length : Int)) Δ1) :=
  x1t (u_callB call_lenM hg hm PySem.boot_len (by decide) (by decide) hs) ha fun b σ v H Q ok hv q => by
    obtain ⟨p, vs, ev, sq, _, pr⟩ := rd b F H v ok.hk hv
    rw [ev]
    exact ⟨p, vs, rfl, sq, by rw [← paired_len pr]; exact q _ rfl⟩
/-- dict(d) -/
theorem x_dictD (hm : X.mg "dict" = none) (ha : PE X a (tE W F Γ Δ T k E1 Δ1)) (rd : ∀ b, RdM (Δ1 b) (E1 b) Ee (xs b)) (hg : Gl X "dict" := by rfl) (hs : starEach [a] X.env = (false, eval a X.env) :: starEach [] X.env := by rfl) : PE X (.Call (.Name "dict" p) [a] [] pos) (tO W F Γ Δ T k (fun b => oM Ee (xs b)) Δ1) :=
  x1m (u_callTy call_dictD hg hm (by decide +kernel) (by decide) (by decide) hs) ha fun b σ v H Q ok hv q => by
    obtain ⟨p, vs, ev, sq, z, pr⟩ := rd b F H v ok.hk hv
    rw [ev]
    exact ⟨p, vs, rfl, sq, fun l hl => q l vs hl z pr⟩
/-- list(d) -/
theorem x_listD (hm : X.mg "list" = none) (ha : PE X a (tE W F Γ Δ T k E1 Δ1)) (rd : ∀ b, RdM (Δ1 b) (E1 b) Ee (xs b)) (hg : Gl X "list" := by rfl) (hs : starEach [a] X.env = (false, eval a X.env) :: starEach [] X.env := by rfl) (hc : X.calm = true := by rfl) : PE X (.Call (.Name "list" p) [a] [] pos) (tO W F Γ Δ T k (fun b => oL Ky.kp ((xs b).map Prod.fst)) Δ1) :=
  x1n (u_callTy (call_listD hc) hg hm (by decide +kernel) (by decide) (by decide) hs) ha fun b σ v H Q ok hv q => by
    obtain ⟨p, vs, ev, sq, z, pr⟩ := rd b F H v ok.hk hv
    rw [ev]
    exact ⟨p, vs, rfl, sq, fun l hl => q l _ hl (by rw [List.length_map]; exact z) (prM_keyP pr)⟩
end
/-- sorted(d), texts as keys -/
theorem x_sortedD {a : Expr} {pos p : Pos} {β : Type} {T : Option γ} {Δ1 : β → Δs} {E1 : β → Pd} {Ee : α → Pd} {xs : β → List (Str × α)} {k : β → Option γ} (hm : X.mg "sorted" = none) (ha : PE X a (tE W F Γ Δ T (fun b => grd ((xs b).length < 64) (k b)) E1 Δ1)) (rd : ∀ b, RdM (Δ1 b) (E1 b) Ee (xs b)) (hg : Gl X "sorted" := by rfl) (hs : starEach [a] X.env = (false, eval a X.env) :: starEach [] X.env := by rfl) (hc : X.calm = true := by rfl) :
    PE X (.Call (.Name "sorted" p) [a] [] pos) (tO W F Γ Δ T k (fun b => oL pStr (srtS ((xs b).map Prod.fst))) Δ1) :=
  ((u_callB (call_sortedD hc) hg hm (by decide +kernel) (by decide) (by decide) hs) _ ha).wk fun σ H Q ⟨ok, g, e, q⟩ => ⟨ok, g, e, fun b v H1 kb f ok1 hv => by
    obtain ⟨c, kb⟩ := grd_some kb
    obtain ⟨p, vs, ev, sq, z, pr⟩ := rd b F H1 v ok1.hk hv
    rw [ev]
    refine ⟨p, vs, (xs b).map Prod.fst, rfl, sq, by rw [prM_keys pr, List.map_map]; rfl, by rw [List.length_map]; exact c, fun ys l pm so hl => ?_⟩
    have e := srtS_uniq pm so
    subst e
    obtain ⟨o2, f2⟩ := ok1.newL hl (E := pStr) (xs := srtS ((xs b).map Prod.fst)) (by rw [(srtS_perm _).length_eq, List.length_map]; exact z) (strs_paired _)
    exact q b _ _ kb (f.trans f2.st) (o2.since f)⟩
/-- {} -/
theorem x_dict0 {pos : Pos} {k : Unit → Option γ} (Ee : α → Pd) : PE X (.Dict [] [] pos) (tO W F Γ Δ (k ()) k (fun _ => oM (κ := κ) Ee []) fun _ => Δ) :=
  pe_dnewK.wk fun σ H Q ⟨ok, g, e, q⟩ p np => by
    obtain ⟨o2, f2⟩ := ok.newM (E := Ee) (xs := ([] : List (κ × α))) np (Nat.zero_le _) .nil
    exact q () _ _ e f2.st o2
theorem y_dict0 {pos : Pos} {T : Option γ} (Ee : α → Pd) : PE X (.Dict [] [] pos) (tO W F Γ Δ T (fun _ : Unit => T) (fun _ => oM (κ := κ) Ee []) fun _ => Δ) := x_dict0 (k := fun _ => T) Ee
/-- for k in d -/
theorem i_mkeys {tg l : Expr} {β : Type} {T : Option γ} {k : β → Option γ} {Ex : α → Pd} {xs : β → List (κ × α)} {Δ' : β → Δs} (he : PE X l (tE W F Γ Δ T k (fun b => pM Ex (xs b)) Δ')) : PI X tg l (tI W F Γ Δ T k (Ky.kp (κ := κ)) (fun b => (xs b).map Prod.fst) Δ') :=
  (pi_keys he).wk fun σ H R ⟨ok, g, e, q⟩ => ⟨ok, g, e, fun b v H' kb f ok' ⟨a, o, kvs, ev, h, z, p⟩ => ⟨a, o, ev, .inl ⟨kvs, h, q b _ H' kb f ok' (by rw [List.length_map]; exact z) fun H2 f2 i => by
    have h2 : H2 a = some (.frz o (.dK kvs)) := f2 _ _ trivial h
    rw [List.length_map]
    refine ⟨fun hi => ⟨h2, by rw [← paired_len p]; exact hi⟩, fun hi => ⟨h2, by rw [← paired_len p]; exact hi⟩, fun x v H3 hx hy => ?_⟩
    obtain ⟨e3, ky, vv, ek, ev⟩ := hy
    rw [List.getElem?_map] at hx
    cases hr : (xs b)[i]? with
    | none => rw [hr] at hx; cases hx
    | some m =>
      rw [hr] at hx
      have hx : m.1 = x := by simpa using hx
      obtain ⟨u, hu, pu, _⟩ := paired_at p hr
      rw [ek] at hu
      cases hu
      subst e3
      refine ⟨Gr.refl _, ?_⟩
      have pu : ky = Ky.ky m.1 := pu
      rw [ev, pu, hx]
      exact Ky.of _ _⟩⟩⟩
theorem tyM {E : α → Pd} {xs : List (κ × α)} : TyP Δ (pM E xs) "dict" := fun _ _ _ _ _ ⟨_, _, _, e, h, _⟩ => by rw [e]; exact .fDict h
theorem tyOM {E : α → Pd} {xs : List (κ × α)} {v : V} {prm : Option Nat} (j : Nat) (h : Δ[j]? = some ⟨v, oM E xs, prm⟩ := by rfl) : TyP Δ (pV v) "dict" := fun K F H w hk e => by
  have e : w = v := e
  subst e
  obtain ⟨_, p, vs, _, ev, hp, _⟩ := hk.at h
  have ev : w = .ref p := ev
  rw [ev]
  exact .base (.dK hp)
/-! ### stores -/
section
variable {N : Fn γ} {rest : List Stmt}
/-- d[k] = e -/
theorem s_dput {o i e : Expr} {pos pos' : Pos} {β0 β1 β2 : Type} {T : Option γ} {k0 : β0 → Option γ} {k1 : β0 → β1 → Option γ} {k : (β0 × β1) × β2 → Option γ} {Δ0 : β0 → Δs} {Δ1 : β0 → β1 → Δs} {Δ2 : β0 → β1 → β2 → Δs} {Ee : α → Pd} {y : β0 → α} {n : β0 → β1 → β2 → κ} {xs : β0 → β1 → β2 → List (κ × α)} {v : V} {prm : Option Nat} (j : Nat) (hu : X.A.units + 64 < cLine)
    (he : PE X e (tE true F Γ Δ T k0 (fun b => Ee (y b)) Δ0)) (ho : ∀ b0, PE X o (tE true F Γ (Δ0 b0) (k0 b0) (k1 b0) (fun _ => pV v) (Δ1 b0)))
    (hi : ∀ b0 b1, PE X i (tE true F Γ (Δ1 b0 b1) (k1 b0 b1) (fun b2 => grd ((xs b0 b1 b2).length < sizeLine) (k ((b0, b1), b2))) (fun b2 => Ky.kp (n b0 b1 b2)) (Δ2 b0 b1)))
    (hj : ∀ b0 b1 b2, (Δ2 b0 b1 b2)[j]? = some ⟨v, oM Ee (xs b0 b1 b2), prm⟩)
    (hr : ∀ b : (β0 × β1) × β2, PSs X rest (tS F Γ ((Δ2 b.1.1 b.1.2 b.2).set j ⟨v, oM Ee (dput (xs b.1.1 b.1.2 b.2) (n b.1.1 b.1.2 b.2) (y b.1.1)), prm⟩) N (k b)))
    (hs : swapsWith e (some (.Subscript o i pos')) pos.line X.env = pure false := by rfl) :
    PSs X (.Assign [.Subscript o i pos'] e pos :: rest) (tS F Γ Δ N T) :=
  (pss_cons (ps_dput (by omega) (pe_ex ho) (pe_ex fun b0 => pe_ex fun b1 => hi b0 b1) he hs) (pss_ex hr)).wk fun D σ H ⟨ok, g, e, f⟩ => ⟨ok, g, e, fun b0 u H0 kb0 f0 ok0 hu => ⟨b0, ok0, g, kb0, fun b1 w H1 kb1 f1 ok1 hw => ⟨b0, b1, ok1, g, kb1, fun b2 z H2 kb2 f2 ok2 hz => by
    obtain ⟨c, km⟩ := grd_some kb2
    have hw : w = v := hw
    subst hw
    have hz := Ky.is hz
    obtain ⟨G, ⟨p, vs, eG, ev, hp, zz, pr⟩, _, turn⟩ := ok2.cell (hj b0 b1 b2)
    have hu2 : (Ee (y b0)).pr H2 u := (Ee (y b0)).mono (f1.fz.trans f2.fz) hu
    have fzm : Fzs H2 (upd H2 p (.dK (putK vs (Ky.ky (n b0 b1 b2)) u))) := Fzs.mut hp fun z => z
    have eG : G = [p] := eG
    refine ⟨p, _, ev, .inl ⟨vs, Ky.ky (n b0 b1 b2), hp, hz, by rw [← paired_len pr]; exact c, rfl⟩, ((b0, b1), b2), ?_⟩
    obtain ⟨ok3, f3⟩ := turn (upd H2 p (.dK (putK vs (Ky.ky (n b0 b1 b2)) u))) (oM Ee (dput (xs b0 b1 b2) (n b0 b1 b2) (y b0))) (fun a o na e => by
      rw [upd_ne fun q => na (by show a ∈ G; rw [eG, q]; exact List.mem_singleton.mpr rfl)]
      exact e) ⟨p, _, eG, ev, upd_same, Nat.le_trans (dput_len _ _ _) c, prM_put ((Ee _).mono fzm hu2) (prM_mono fzm pr)⟩
    exact ⟨ok3, g, km, N.mono f (((f0.fz.trans f1.fz).trans f2.fz).trans f3.fz)⟩⟩⟩⟩
/-- del d[k] -/
theorem s_ddel {o i : Expr} {pos pos' : Pos} {β1 β2 : Type} {T : Option γ} {k1 : β1 → Option γ} {k : β1 × β2 → Option γ} {Δ1 : β1 → Δs} {Δ2 : β1 → β2 → Δs} {Ee : α → Pd} {n : β1 → β2 → κ} {xs : β1 → β2 → List (κ × α)} {v : V} {prm : Option Nat} (j : Nat)
    (ho : PE X o (tE true F Γ Δ T k1 (fun _ => pV v) Δ1))
    (hi : ∀ b1, PE X i (tE true F Γ (Δ1 b1) (k1 b1) (fun b2 => grd (dhas (xs b1 b2) (n b1 b2) = true) (k (b1, b2))) (fun b2 => Ky.kp (n b1 b2)) (Δ2 b1)))
    (hj : ∀ b1 b2, (Δ2 b1 b2)[j]? = some ⟨v, oM Ee (xs b1 b2), prm⟩)
    (hr : ∀ b : β1 × β2, PSs X rest (tS F Γ ((Δ2 b.1 b.2).set j ⟨v, oM Ee (ddel (xs b.1 b.2) (n b.1 b.2)), prm⟩) N (k b))) :
    PSs X (.Delete [.Subscript o i pos'] pos :: rest) (tS F Γ Δ N T) :=
  (pss_cons (ps_ddel ho (pe_ex fun b1 => hi b1)) (pss_ex hr)).wk fun D σ H ⟨ok, g, e, f⟩ => ⟨ok, g, e, fun b1 w H1 kb1 f1 ok1 hw => ⟨b1, ok1, g, kb1, fun b2 z H2 kb2 f2 ok2 hz => by
    obtain ⟨c, km⟩ := grd_some kb2
    have hw : w = v := hw
    subst hw
    have hz := Ky.is hz
    obtain ⟨G, ⟨p, vs, eG, ev, hp, zz, pr⟩, _, turn⟩ := ok2.cell (hj b1 b2)
    have fzm : Fzs H2 (upd H2 p (.dK (dropK vs (Ky.ky (n b1 b2))))) := Fzs.mut hp fun z => z
    have eG : G = [p] := eG
    refine ⟨p, vs, Ky.ky (n b1 b2), ev, hp, hz, by rw [has_of _ pr]; exact c, (b1, b2), ?_⟩
    obtain ⟨ok3, f3⟩ := turn (upd H2 p (.dK (dropK vs (Ky.ky (n b1 b2))))) (oM Ee (ddel (xs b1 b2) (n b1 b2))) (fun a o na e => by
      rw [upd_ne fun q => na (by show a ∈ G; rw [eG, q]; exact List.mem_singleton.mpr rfl)]
      exact e) ⟨p, _, eG, ev, upd_same, Nat.le_trans (ddel_len _ _) zz, prM_del _ (prM_mono fzm pr)⟩
    exact ⟨ok3, g, km, N.mono f ((f1.fz.trans f2.fz).trans f3.fz)⟩⟩⟩
end
/-- d.clear() -/
theorem x_dclear {o : Expr} {apos cpos : Pos} {β1 : Type} {T : Option γ} {k : β1 → Option γ} {Δ1 : β1 → Δs} {Ee : α → Pd} {xs : β1 → List (κ × α)} {v : V} {prm : Option Nat} (j : Nat) (ho : PE X o (tE true F Γ Δ T k (fun _ => pV v) Δ1)) (hj : ∀ b1, (Δ1 b1)[j]? = some ⟨v, oM Ee (xs b1), prm⟩)
    (hbase : attributeBase o "clear" X.env (eval o X.env) = eval o X.env := by rfl) (hline : (apos.endLine == cpos.line) = true := by rfl) :
    PE X (.Call (.Attribute o "clear" apos) [] [] cpos) (tE true F Γ Δ T k (fun _ => pNon) fun b => (Δ1 b).set j ⟨v, oM (κ := κ) Ee [], prm⟩) :=
  (pe_dclear ho hbase hline).wk fun σ H Q ⟨ok, g, e, q⟩ => ⟨ok, g, e, fun b1 u H1 kb1 f1 ok1 hu => by
    have hu : u = v := hu
    subst hu
    obtain ⟨G, ⟨p, vs, eG, ev, hp, zz, pr⟩, _, turn⟩ := ok1.cell (hj b1)
    have eG : G = [p] := eG
    have ev : u = .ref p := ev
    have fzm : Fzs H1 (upd H1 p (.dK [])) := Fzs.mut hp fun z => z
    obtain ⟨ok3, f3⟩ := turn (upd H1 p (.dK [])) (oM (κ := κ) Ee []) (fun a o na e => by
      rw [upd_ne fun q => na (by show a ∈ G; rw [eG, q]; exact List.mem_singleton.mpr rfl)]
      exact e) ⟨p, _, eG, ev, upd_same, Nat.zero_le _, .nil⟩
    exact ⟨by rw [ev]; exact .inr (.inr (.inl ⟨rfl, .inl ⟨vs, hp⟩⟩)), p, vs, ev, rfl, hp, q b1 .non _ kb1 (f1.trans f3) ok3 rfl⟩⟩
end
end L3
end
section
set_option Elab.async false
set_option linter.all false
set_option maxRecDepth 100000
set_option maxHeartbeats 4000000
namespace L3
open PySem PySem.Spec PyProof.Rows L2
section
variable {κ α : Type} [DecidableEq κ] [DecidableEq α]
/-- two dicts have the same pairs -/
def deq (c d : List (κ × α)) : Bool := (c.length == d.length) && c.all fun p => decide (dget d p.1 = some p.2)
end
section
variable {X : Cx} {W : Bool} {F : Fm} {Γ : Gm} {Δ : Δs} {γ : Type} {κ α : Type} [DecidableEq κ] [Ky κ] [DecidableEq α]
theorem deq_hits {E : α → Pd} (d : Dt E) (hd : d.dep < 60) {A : Around} {pins : List (Addr × Obj)} {σ : SS} {H : Hp} {s : Shared} (I : Inv X pins σ H s) (hu : A.in1.units + 64 < cLine) {ys : List (κ × α)} {ls : List (Key × V)} {vb : List (Key × Value)} (py : Paired (PrM E H) ys ls) (rb : KV ls vb) :
    ∀ {xs : List (κ × α)} {ks : List (Key × V)} {va : List (Key × Value)}, Paired (PrM E H) xs ks → KV ks va → PySem.W.KeqHits A.in1 s vb va (xs.all fun p => decide (dget ys p.1 = some p.2))
  | [], [], [], .nil, .nil => .nil
  | x :: xs, k :: ks, (key, v) :: va, .cons r t, .cons q u => by
    have ih := deq_hits d hd I hu py rb t u
    have ek : k.1 = key := q.1
    rw [List.all_cons]
    have rr : RelO (valV ls k.1) (valueAt vb k.1) := rb.val k.1
    rw [r.1] at rr
    rcases prM_get x.1 py with ⟨e0, e1⟩ | ⟨y, w, e0, e1, hw⟩
    · rw [e0, decide_eq_false (by simp), Bool.false_and]
      rw [e1] at rr
      refine .miss ?_
      rw [← ek, r.1]
      cases hv : valueAt vb (Ky.ky x.1) with
      | none => rfl
      | some z => rw [hv] at rr; exact rr.elim
    · rw [e1] at rr
      obtain ⟨z, hz, rz⟩ := rr.some_of
      have key_eq : valueAt vb key = some z := by rw [← ek, r.1]; exact hz
      obtain ⟨as, r1⟩ := Dp.reads I (d.toD x.2) k.2 v (d.dp r.2) q.2
      obtain ⟨bs, r2⟩ := Dp.reads I (d.toD y) w z (d.dp hw) rz
      have sh : ∀ a : α, SeqAt.shaped (d.toD a) = true := fun a => by
        show ((d.toD a).canLay0 && decide ((d.toD a).depth ≤ 64)) = true
        rw [d.can, decide_eq_true (by have := d.deep a; omega)]; rfl
      have eq := PySem.W.keq_at (A := A) r1 r2 (sh _) (sh _) hu
      rw [d.eq] at eq
      have e2 : decide (dget ys x.1 = some x.2) = decide (x.2 = y) := by
        rw [e0]
        by_cases h : x.2 = y
        · simp [h]
        · have h2 : ¬ y = x.2 := fun z => h z.symm
          simp [h, h2]
      rw [e2]
      exact .hit key_eq eq ih
/-- d == e -/
def rDeq (d : Bool → Bool) : R2 := fun x y H Q => ∃ (κ α : Type) (_ : DecidableEq κ) (_ : Ky κ) (_ : DecidableEq α) (E : α → Pd) (t : Dt E) (_ : t.dep < 60) (xs ys : List (κ × α)), RM E xs H x ∧ RM E ys H y ∧ Q (.bl (d (deq xs ys))) H
theorem op_deq (hu : X.A.units + 66 < cLine) : OpR X (compareOp .Eq) (rDeq id) := by
  intro pins s σ H x y v u Q I rx ry h
  obtain ⟨κ, α, i1, i2, i3, E, t, ht, xs, ys, ⟨a, ks, rfl, ra, _, pa⟩, ⟨b, ls, rfl, rb, _, pb⟩, q⟩ := h
  obtain rfl : v = Value.ref a := rx
  obtain rfl : u = Value.ref b := ry
  obtain ⟨_, ya, va, rva, da⟩ := dk_rd I.hok ra
  obtain ⟨_, yb, vb, rvb, db⟩ := dk_rd I.hok rb
  refine PySem.W.keq_eq (knd := mixKind X.prog X.w) ya yb da db (by omega) (fun _ => deq_hits t ht I (by show X.A.units + 1 + 64 < cLine; omega) pb rvb pa rva) ⟨.bl (deq xs ys), H, I, ?_, q⟩
  show Value.bool _ = Value.bool _
  unfold deq
  rw [← rva.length, ← rvb.length, ← paired_len pa, ← paired_len pb]
theorem op_dne (hu : X.A.units + 66 < cLine) : OpR X (compareOp .NotEq) (rDeq (fun x => !x)) := by
  intro pins s σ H x y v u Q I rx ry h
  obtain ⟨κ, α, i1, i2, i3, E, t, ht, xs, ys, ⟨a, ks, rfl, ra, _, pa⟩, ⟨b, ls, rfl, rb, _, pb⟩, q⟩ := h
  obtain rfl : v = Value.ref a := rx
  obtain rfl : u = Value.ref b := ry
  obtain ⟨_, ya, va, rva, da⟩ := dk_rd I.hok ra
  obtain ⟨_, yb, vb, rvb, db⟩ := dk_rd I.hok rb
  refine PySem.W.keq_ne (knd := mixKind X.prog X.w) ya yb da db (by omega) (fun _ => deq_hits t ht I (by show X.A.units + 1 + 64 < cLine; omega) pb rvb pa rva) ⟨.bl (!deq xs ys), H, I, ?_, q⟩
  show Value.bool _ = Value.bool _
  unfold deq
  rw [← rva.length, ← rvb.length, ← paired_len pa, ← paired_len pb]
theorem room66 {k : Nat} {A : Around} (r : Room k A) : A.units + 66 < cLine := by have := r.un; omega
section
variable {a b : Expr} {pos : Pos} {β1 β2 : Type} {T : Option γ} {k1 : β1 → Option γ} {k : β1 × β2 → Option γ} {Δ1 : β1 → Δs} {Δ2 : β1 → β2 → Δs} {Ee : α → Pd} {E1 : β1 → Pd} {E2 : β1 → β2 → Pd} {xs ys : β1 → β2 → List (κ × α)}
theorem x_eqM (hu : X.A.units + 66 < cLine) (d : Dt Ee) (ha : PE X a (tE W F Γ Δ T k1 E1 Δ1)) (hb : ∀ b1, PE X b (tE W F Γ (Δ1 b1) (k1 b1) (fun b2 => k (b1, b2)) (E2 b1) (Δ2 b1))) (r1 : ∀ b1 b2, RdM (Δ2 b1 b2) (E1 b1) Ee (xs b1 b2)) (r2 : ∀ b1 b2, RdM (Δ2 b1 b2) (E2 b1 b2) Ee (ys b1 b2)) (hd : d.dep < 60 := by decide) :
    PE X (.Compare a [.Eq] [b] pos) (tE W F Γ Δ T k (fun b => pBl (deq (xs b.1 b.2) (ys b.1 b.2))) fun b => Δ2 b.1 b.2) := x2t (b_cmp (op_deq hu) (nomark _)) ha hb fun b1 b2 σ v w H Q ok hv hw q => ⟨κ, α, _, _, _, Ee, d, hd, _, _, r1 b1 b2 F H v ok.hk hv, r2 b1 b2 F H w ok.hk hw, q _ rfl⟩
theorem x_neM (hu : X.A.units + 66 < cLine) (d : Dt Ee) (ha : PE X a (tE W F Γ Δ T k1 E1 Δ1)) (hb : ∀ b1, PE X b (tE W F Γ (Δ1 b1) (k1 b1) (fun b2 => k (b1, b2)) (E2 b1) (Δ2 b1))) (r1 : ∀ b1 b2, RdM (Δ2 b1 b2) (E1 b1) Ee (xs b1 b2)) (r2 : ∀ b1 b2, RdM (Δ2 b1 b2) (E2 b1 b2) Ee (ys b1 b2)) (hd : d.dep < 60 := by decide) :
    PE X (.Compare a [.NotEq] [b] pos) (tE W F Γ Δ T k (fun b => pBl (!deq (xs b.1 b.2) (ys b.1 b.2))) fun b => Δ2 b.1 b.2) := x2t (b_cmp (op_dne hu) (nomark _)) ha hb fun b1 b2 σ v w H Q ok hv hw q => ⟨κ, α, _, _, _, Ee, d, hd, _, _, r1 b1 b2 F H v ok.hk hv, r2 b1 b2 F H w ok.hk hw, q _ rfl⟩
theorem t_eqM (hu : X.A.units + 66 < cLine) (d : Dt Ee) (ha : PE X a (tE W F Γ Δ T k1 E1 Δ1)) (hb : ∀ b1, PE X b (tE W F Γ (Δ1 b1) (k1 b1) (fun b2 => k (b1, b2)) (E2 b1) (Δ2 b1))) (r1 : ∀ b1 b2, RdM (Δ2 b1 b2) (E1 b1) Ee (xs b1 b2)) (r2 : ∀ b1 b2, RdM (Δ2 b1 b2) (E2 b1 b2) Ee (ys b1 b2)) (hd : d.dep < 60 := by decide) :
    PT X (.Compare a [.Eq] [b] pos) (tTs W F Γ Δ T k (fun b => deq (xs b.1 b.2) (ys b.1 b.2)) fun b => Δ2 b.1 b.2) := t2t (bt_cmp (op_deq hu) (nomark _)) ha hb fun b1 b2 σ v w H Q ok hv hw q => ⟨κ, α, _, _, _, Ee, d, hd, _, _, r1 b1 b2 F H v ok.hk hv, r2 b1 b2 F H w ok.hk hw, q _ rfl⟩
theorem t_neM (hu : X.A.units + 66 < cLine) (d : Dt Ee) (ha : PE X a (tE W F Γ Δ T k1 E1 Δ1)) (hb : ∀ b1, PE X b (tE W F Γ (Δ1 b1) (k1 b1) (fun b2 => k (b1, b2)) (E2 b1) (Δ2 b1))) (r1 : ∀ b1 b2, RdM (Δ2 b1 b2) (E1 b1) Ee (xs b1 b2)) (r2 : ∀ b1 b2, RdM (Δ2 b1 b2) (E2 b1 b2) Ee (ys b1 b2)) (hd : d.dep < 60 := by decide) :
    PT X (.Compare a [.NotEq] [b] pos) (tTs W F Γ Δ T k (fun b => !deq (xs b.1 b.2) (ys b.1 b.2)) fun b => Δ2 b.1 b.2) := t2t (bt_cmp (op_dne hu) (nomark _)) ha hb fun b1 b2 σ v w H Q ok hv hw q => ⟨κ, α, _, _, _, Ee, d, hd, _, _, r1 b1 b2 F H v ok.hk hv, r2 b1 b2 F H w ok.hk hw, q _ rfl⟩
end
end
section
variable {X : Cx} {W : Bool} {F : Fm} {Γ : Gm} {Δ : Δs} {γ : Type}
/-! ### a value that is known not to be None -/
theorem x_some {a : Expr} {β α : Type} {T : Option γ} {k : β × α → Option γ} {Ee : α → Pd} {x : β → Option α} {Δ1 : β → Δs} (ha : PE X a (tE W F Γ Δ T (fun b => (x b).bind fun y => k (b, y)) (fun b => pOp Ee (x b)) Δ1)) : PE X a (tE W F Γ Δ T k (fun b => Ee b.2) fun b => Δ1 b.1) :=
  ha.wk fun σ H Q ⟨ok, g, e, q⟩ => ⟨ok, g, e, fun b v H' kb f ok' hv => by
    obtain ⟨y, ey, ky⟩ := bind_some kb
    have hv : (pOp Ee (x b)).pr H' v := hv
    rw [ey] at hv
    exact q (b, y) v H' ky f ok' hv⟩
/-! ### max(i, j), min(i, j), str(i) -/
section
variable {a b : Expr} {p pos : Pos} {β1 β2 : Type} {T : Option γ} {k1 : β1 → Option γ} {k : β1 × β2 → Option γ} {Δ1 : β1 → Δs} {Δ2 : β1 → β2 → Δs} {i : β1 → Int} {j : β1 → β2 → Int}
theorem x_max2 (hm : X.mg "max" = none) (ha : PE X a (tE W F Γ Δ T k1 (fun b => pInt (i b)) Δ1)) (hb : ∀ b1, PE X b (tE W F Γ (Δ1 b1) (k1 b1) (fun b2 => k (b1, b2)) (fun b => pInt (j b1 b)) (Δ2 b1))) (hg : Gl X "max" := by rfl) (hs : starEach [a, b] X.env = (false, eval a X.env) :: starEach [b] X.env := by rfl) (hs2 : starEach [b] X.env = (false, eval b X.env) :: starEach [] X.env := by rfl) (hpl : (backTo pos (starEach [b] X.env)).any (·.1) = false := by rfl) (hc : X.calm = true := by rfl) :
    PE X (.Call (.Name "max" p) [a, b] [] pos) (tE W F Γ Δ T k (fun b => pInt (max (i b.1) (j b.1 b.2))) fun b => Δ2 b.1 b.2) :=
  x2t (b_callB (call_max2 hc) hg hm (by decide +kernel) (by decide) (by decide) hs hs2 hpl) ha hb fun b1 b2 σ v w H Q ok hv hw q => ⟨i b1, j b1 b2, by rw [show v = .int (i b1) from hv, show w = .int (j b1 b2) from hw], q _ (by
    show V.int _ = V.int _
    congr 1
    dsimp only
    by_cases h : j b1 b2 > i b1
    · rw [if_pos h, Int.max_def, if_pos (by omega)]
    · rw [if_neg h, Int.max_def]; split <;> omega)⟩
theorem x_min2 (hm : X.mg "min" = none) (ha : PE X a (tE W F Γ Δ T k1 (fun b => pInt (i b)) Δ1)) (hb : ∀ b1, PE X b (tE W F Γ (Δ1 b1) (k1 b1) (fun b2 => k (b1, b2)) (fun b => pInt (j b1 b)) (Δ2 b1))) (hg : Gl X "min" := by rfl) (hs : starEach [a, b] X.env = (false, eval a X.env) :: starEach [b] X.env := by rfl) (hs2 : starEach [b] X.env = (false, eval b X.env) :: starEach [] X.env := by rfl) (hpl : (backTo pos (starEach [b] X.env)).any (·.1) = false := by rfl) (hc : X.calm = true := by rfl) :
    PE X (.Call (.Name "min" p) [a, b] [] pos) (tE W F Γ Δ T k (fun b => pInt (min (i b.1) (j b.1 b.2))) fun b => Δ2 b.1 b.2) :=
  x2t (b_callB (call_min2 hc) hg hm (by decide +kernel) (by decide) (by decide) hs hs2 hpl) ha hb fun b1 b2 σ v w H Q ok hv hw q => ⟨i b1, j b1 b2, by rw [show v = .int (i b1) from hv, show w = .int (j b1 b2) from hw], q _ (by
    show V.int _ = V.int _
    congr 1
    dsimp only
    by_cases h : j b1 b2 < i b1
    · rw [if_pos h, Int.min_def]; split <;> omega
    · rw [if_neg h, Int.min_def, if_pos (by omega)])⟩
end
section
variable {a b : Expr} {p pos : Pos} {β β1 β2 : Type} {T : Option γ} {k1 : β1 → Option γ} {Δ1 : β1 → Δs} {Δ0 : β → Δs} {Δ2 : β1 → β2 → Δs}
theorem x_strI {k : β → Option γ} {i : β → Int} (hm : X.mg "str" = none) (ha : PE X a (tE W F Γ Δ T (fun b => grd ((i b).natAbs.log2 < 1920) (k b)) (fun b => pInt (i b)) Δ0)) (hg : Gl X "str" := by rfl) (hs : starEach [a] X.env = (false, eval a X.env) :: starEach [] X.env := by rfl) : PE X (.Call (.Name "str" p) [a] [] pos) (tE W F Γ Δ T k (fun b => pStr (Str.ofString (toString (i b)))) Δ0) :=
  x1g (u_callTy call_str_int hg hm (by decide +kernel) (by decide) (by decide) hs) ha fun b σ v H Q ok c hv q => ⟨i b, by rw [show v = .int (i b) from hv], c, q _ rfl⟩
/-- s[i] -/
theorem x_ixC {k : (β1 × β2) × Nat → Option γ} {z : β1 → Str} {j : β1 → β2 → Int} (ha : PE X a (tE W F Γ Δ T k1 (fun b => pStr (z b)) Δ1)) (hb : ∀ b1, PE X b (tE W F Γ (Δ1 b1) (k1 b1) (fun b2 => grd ((z b1).length ≤ sizeLine) ((atI (z b1).cps.toList (j b1 b2)).bind fun x => k ((b1, b2), x))) (fun b => pInt (j b1 b)) (Δ2 b1))) (hs : PlainIx b := by exact fun _ _ => rfl) :
    PE X (.Subscript a b pos) (tE W F Γ Δ T k (fun b => pStr ⟨#[b.2]⟩) fun b => Δ2 b.1.1 b.1.2) :=
  x2_core (b_ix ix_str hs) ha hb fun σ H Q ⟨ok, g, e, q⟩ => ⟨ok, g, e, fun b1 b2 v w H2 kb f ok2 hv hw => by
    obtain ⟨c, kb⟩ := grd_some kb
    obtain ⟨x, ex, kx⟩ := bind_some kb
    exact ⟨z b1, j b1 b2, x, hv, hw, c, ex, q ((b1, b2), x) _ H2 kx f ok2 rfl⟩⟩
end
/-! ### xs.index(x), xs.count(i) -/
def idx? {α : Type} [DecidableEq α] (x : α) : List α → Option Nat
  | [] => none
  | y :: ys => if y = x then some 0 else (idx? x ys).map (· + 1)
theorem idx_spec {α : Type} [DecidableEq α] {x : α} : ∀ {xs : List α} {j : Nat}, idx? x xs = some j → xs[j]? = some x ∧ ∀ m y, m < j → xs[m]? = some y → y ≠ x
  | [], _, h => by cases h
  | y :: ys, j, h => by
    unfold idx? at h
    by_cases e : y = x
    · rw [if_pos e] at h; cases h
      exact ⟨by rw [e]; rfl, fun m _ hm => absurd hm (Nat.not_lt_zero m)⟩
    · rw [if_neg e] at h
      cases hi : idx? x ys with
      | none => rw [hi] at h; cases h
      | some i =>
        rw [hi] at h
        have h : i + 1 = j := Option.some.inj h
        subst h
        obtain ⟨h1, h2⟩ := idx_spec hi
        refine ⟨by simpa using h1, fun m z hm hz => ?_⟩
        cases m with
        | zero => have hz : y = z := by simpa using hz
                  rw [← hz]; exact e
        | succ m => exact h2 m z (by omega) (by simpa using hz)
section
variable {o e : Expr} {apos cpos : Pos} {β1 β2 α : Type} {T : Option γ} {k1 : β1 → Option γ} {Δ1 : β1 → Δs} {Δ2 : β1 → β2 → Δs} {E1 : β1 → Pd} {Ee : α → Pd} {y : β1 → β2 → α}
theorem x_index [DecidableEq α] {k : (β1 × β2) × Nat → Option γ} {xs0 : β1 → List α} {xs : β1 → β2 → List α} (fl : Flat Ee) (ho : PE X o (tE W F Γ Δ T k1 E1 Δ1)) (he : ∀ b1, PE X e (tE W F Γ (Δ1 b1) (k1 b1) (fun b2 => (idx? (y b1 b2) (xs b1 b2)).bind fun n => k ((b1, b2), n)) (fun b2 => Ee (y b1 b2)) (Δ2 b1))) (rd0 : ∀ b1, RdL (Δ1 b1) (E1 b1) Ee (xs0 b1)) (rd : ∀ b1 b2, RdL (Δ2 b1 b2) (E1 b1) Ee (xs b1 b2))
    (hbase : attributeBase o "index" X.env (eval o X.env) = eval o X.env := by rfl) (hline : (apos.endLine == cpos.line) = true := by rfl) (hs : starEach [e] X.env = (false, eval e X.env) :: starEach [] X.env := by rfl)
    (hfew : ((backTo cpos (starEach [e] X.env)).all (fun x => !x.1) && (backToKw cpos (keywordEach [] X.env)).all (fun x => x.1.isSome) && decide ([e].length + ([] : List Keyword).length + (if ([] : List Keyword).isEmpty then 0 else 1) < 30)) = true := by rfl) :
    PE X (.Call (.Attribute o "index" apos) [e] [] cpos) (tE W F Γ Δ T k (fun b => pInt (b.2 : Int)) fun b => Δ2 b.1.1 b.1.2) :=
  (pe_bm PySem.F.plainAttrs_list PySem.F.slot_list_index PySem.F.type_list_index mt_index ho (pa_cons (pe_ex he) pa_nil hs) hbase hfew hline hs).wk fun σ H Q ⟨ok, g, e, q⟩ => ⟨ok, g, e, fun b1 u H1 kb1 f1 ok1 hu => by
    obtain ⟨p0, vs0, ev0, sq0, _, _⟩ := (rd0 b1 F H1 u ok1.hk hu).sq (K := X.K)
    refine ⟨by rw [ev0]; exact .inl ⟨rfl, vs0, sq0⟩, b1, ok1, g, kb1, fun b2 w H2 kb2 f2 ok2 hw => ?_⟩
    obtain ⟨n, en, kn⟩ := bind_some kb2
    obtain ⟨p, vs, ev, sq, _, pr⟩ := (rd b1 b2 F H2 u ok2.hk ((E1 b1).mono f2.fz hu)).sq (K := X.K)
    have e1 := flat_vals fl pr
    subst e1
    have e2 := fl.eq hw
    subst e2
    obtain ⟨i1, i2⟩ := idx_spec en
    refine ⟨p, _, fl.mp (y b1 b2), n, fl.mp (y b1 b2), ev, rfl, sq, fl.fl _, flat_all fl _, by rw [List.getElem?_map, i1]; rfl, by rw [fl.one]; simp, fun m z' hm hz => ?_, q ((b1, b2), n) _ H2 kn (f1.trans f2) ok2 rfl⟩
    rw [List.getElem?_map] at hz
    cases hx : (xs b1 b2)[m]? with
    | none => rw [hx] at hz; cases hz
    | some x =>
      rw [hx] at hz
      have hz : fl.mp x = z' := by simpa using hz
      rw [← hz, fl.one, decide_eq_false (i2 m x hm hx)]⟩
theorem x_countI {k : β1 × β2 → Option γ} {xs0 : β1 → List Int} {xs : β1 → β2 → List Int} {y : β1 → β2 → Int} (ho : PE X o (tE W F Γ Δ T k1 E1 Δ1)) (he : ∀ b1, PE X e (tE W F Γ (Δ1 b1) (k1 b1) (fun b2 => k (b1, b2)) (fun b2 => pInt (y b1 b2)) (Δ2 b1))) (rd0 : ∀ b1, RdL (Δ1 b1) (E1 b1) pInt (xs0 b1)) (rd : ∀ b1 b2, RdL (Δ2 b1 b2) (E1 b1) pInt (xs b1 b2))
    (hbase : attributeBase o "count" X.env (eval o X.env) = eval o X.env := by rfl) (hline : (apos.endLine == cpos.line) = true := by rfl) (hs : starEach [e] X.env = (false, eval e X.env) :: starEach [] X.env := by rfl)
    (hfew : ((backTo cpos (starEach [e] X.env)).all (fun x => !x.1) && (backToKw cpos (keywordEach [] X.env)).all (fun x => x.1.isSome) && decide ([e].length + ([] : List Keyword).length + (if ([] : List Keyword).isEmpty then 0 else 1) < 30)) = true := by rfl) :
    PE X (.Call (.Attribute o "count" apos) [e] [] cpos) (tE W F Γ Δ T k (fun b => pInt (((xs b.1 b.2).count (y b.1 b.2) : Nat) : Int)) fun b => Δ2 b.1 b.2) :=
  (pe_bm PySem.F.plainAttrs_list PySem.F.slot_list_count PySem.F.type_list_count mt_lcount ho (pa_cons (pe_ex he) pa_nil hs) hbase hfew hline hs).wk fun σ H Q ⟨ok, g, e, q⟩ => ⟨ok, g, e, fun b1 u H1 kb1 f1 ok1 hu => by
    obtain ⟨p0, vs0, ev0, sq0, _, _⟩ := (rd0 b1 F H1 u ok1.hk hu).sq (K := X.K)
    refine ⟨by rw [ev0]; exact .inl ⟨rfl, vs0, sq0⟩, b1, ok1, g, kb1, fun b2 w H2 kb2 f2 ok2 hw => ?_⟩
    obtain ⟨p, vs, ev, sq, _, pr⟩ := (rd b1 b2 F H2 u ok2.hk ((E1 b1).mono f2.fz hu)).sq (K := X.K)
    have e1 := paired_ints pr
    subst e1
    exact ⟨p, xs b1 b2, y b1 b2, ev, by rw [show w = .int (y b1 b2) from hw], sq, q (b1, b2) _ H2 kb2 (f1.trans f2) ok2 rfl⟩⟩
end
theorem feOp0 {α : Type} {E : α → Pd} (fe : FlatE E) : ∀ (x : Option α) H H' v, (pOp E x).pr H v → (pOp E x).pr H' v
  | none, _, _, _, h => h
  | some y, H, H', v, h => fe y H H' v h
theorem feOp {β α : Type} {E : α → Pd} {x : β → Option α} (fe : FlatE E) : FlatE fun b => pOp E (x b) := fun b H H' v h => feOp0 fe (x b) H H' v h
theorem feI : FlatE pInt := fun _ _ _ _ h => h
theorem feS : FlatE pStr := fun _ _ _ _ h => h
/-! ### what is made under a lock -/
theorem foM {β κ α : Type} [DecidableEq κ] [Ky κ] {E : α → Pd} {x : β → List (κ × α)} (fe : FlatE E) : FlatO fun b => oM E (x b) := fun b G H H' v ⟨p, vs, eg, ev, h, z, q⟩ k => ⟨p, vs, eg, ev, by rw [k p (by rw [eg]; exact List.mem_singleton.mpr rfl)]; exact h, z, paired_mono (fun x u w => ⟨w.1, fe x.2 H H' u.2 w.2⟩) q⟩
end
end L3
end
section
set_option Elab.async false
set_option linter.all false
set_option maxRecDepth 100000
set_option maxHeartbeats 4000000
namespace L3
open PySem PySem.Spec PyProof.Rows L2
section
variable {X : Cx} {W : Bool} {F : Fm} {Γ : Gm} {Δ : Δs} {γ : Type}
/-- the mirror said otherwise -/
theorem t_T {β : Type} {e : Expr} {T T' : Option γ} {k : β → Option γ} {c : β → Bool} {Δ' : β → Δs} (h : PT X e (tTs W F Γ Δ T' k c Δ')) (hT : T = T') : PT X e (tTs W F Γ Δ T k c Δ') := by rw [hT]; exact h
end
end L3
end
section
set_option Elab.async false
set_option linter.all false
set_option maxRecDepth 100000
set_option maxHeartbeats 4000000
namespace L3
open PySem PySem.Spec PyProof.Rows L2
/-! ### values of any kind -/
inductive Val where
  | non
  | bl (b : Bool)
  | int (i : Int)
  | str (x : Str)
  | lst (xs : List Val)
  | tup (xs : List Val)
  | dct (kvs : List (Key × Val))
  | ins (c : Str) (fs : List (Str × Val))
abbrev Mg := Str → Option Value
mutual
inductive VRep (mg : Mg) (H : Hp) : Val → V → Prop
  | non : VRep mg H .non .non
  | bl (b : Bool) : VRep mg H (.bl b) (.bl b)
  | int (i : Int) : VRep mg H (.int i) (.int i)
  | str (x : Str) : VRep mg H (.str x) (.str x)
  | lst {a : Addr} {o : Obj} {vs : List V} {xs : List Val} : H a = some (.frz o (.lst vs)) → xs.length ≤ sizeLine → VReps mg H xs vs → VRep mg H (.lst xs) (.ref a)
  | tup {a : Addr} {vs : List V} {xs : List Val} : H a = some (.tup vs) → xs.length ≤ sizeLine → VReps mg H xs vs → VRep mg H (.tup xs) (.ref a)
  | dct {a : Addr} {o : Obj} {ks : List (Key × V)} {kvs : List (Key × Val)} : H a = some (.frz o (.dK ks)) → kvs.length ≤ sizeLine → VRepD mg H kvs ks → VRep mg H (.dct kvs) (.ref a)
  | ins {a : Addr} {o : Obj} {C dx : Addr} {vs : List (Str × V)} {c : Str} {fs : List (Str × Val)} : H a = some (.frz o (.ins C dx vs)) → mg c = some (.ref C) → VRepF mg H fs vs → VRep mg H (.ins c fs) (.ref a)
inductive VReps (mg : Mg) (H : Hp) : List Val → List V → Prop
  | nil : VReps mg H [] []
  | cons {x : Val} {v : V} {xs : List Val} {vs : List V} : VRep mg H x v → VReps mg H xs vs → VReps mg H (x :: xs) (v :: vs)
inductive VRepD (mg : Mg) (H : Hp) : List (Key × Val) → List (Key × V) → Prop
  | nil : VRepD mg H [] []
  | cons {k : Key} {x : Val} {v : V} {xs : List (Key × Val)} {vs : List (Key × V)} : VRep mg H x v → VRepD mg H xs vs → VRepD mg H ((k, x) :: xs) ((k, v) :: vs)
inductive VRepF (mg : Mg) (H : Hp) : List (Str × Val) → List (Str × V) → Prop
  | nil : VRepF mg H [] []
  | cons {k : Str} {x : Val} {v : V} {xs : List (Str × Val)} {vs : List (Str × V)} : VRep mg H x v → VRepF mg H xs vs → VRepF mg H ((k, x) :: xs) ((k, v) :: vs)
end
mutual
theorem VRep.mono {mg : Mg} {H H' : Hp} (f : Fzs H H') : ∀ {x : Val} {v : V}, VRep mg H x v → VRep mg H' x v
  | _, _, .non => .non
  | _, _, .bl b => .bl b
  | _, _, .int i => .int i
  | _, _, .str x => .str x
  | _, _, .lst h z r => .lst (f _ _ trivial h) z (VReps.mono f r)
  | _, _, .tup h z r => .tup (f _ _ trivial h) z (VReps.mono f r)
  | _, _, .dct h z r => .dct (f _ _ trivial h) z (VRepD.mono f r)
  | _, _, .ins h m r => .ins (f _ _ trivial h) m (VRepF.mono f r)
theorem VReps.mono {mg : Mg} {H H' : Hp} (f : Fzs H H') : ∀ {x : List Val} {v : List V}, VReps mg H x v → VReps mg H' x v
  | _, _, .nil => .nil
  | _, _, .cons a b => .cons (VRep.mono f a) (VReps.mono f b)
theorem VRepD.mono {mg : Mg} {H H' : Hp} (f : Fzs H H') : ∀ {x : List (Key × Val)} {v : List (Key × V)}, VRepD mg H x v → VRepD mg H' x v
  | _, _, .nil => .nil
  | _, _, .cons a b => .cons (VRep.mono f a) (VRepD.mono f b)
theorem VRepF.mono {mg : Mg} {H H' : Hp} (f : Fzs H H') : ∀ {x : List (Str × Val)} {v : List (Str × V)}, VRepF mg H x v → VRepF mg H' x v
  | _, _, .nil => .nil
  | _, _, .cons a b => .cons (VRep.mono f a) (VRepF.mono f b)
end
def pU (mg : Mg) (x : Val) : Pd := ⟨fun H v => VRep mg H x v, fun f h => VRep.mono f h⟩
/-! ### things of one's own, of any kind: what is fz is locked for good -/
inductive OTr where
  | fz (v : Val)
  | lst (xs : List OTr)
  | tup (xs : List OTr)
  | dct (kvs : List (Key × OTr))
  | ins (c : Str) (fs : List (Str × OTr))
mutual
def er : OTr → Val
  | .fz v => v
  | .lst xs => .lst (ers xs)
  | .tup xs => .tup (ers xs)
  | .dct kvs => .dct (erd kvs)
  | .ins c fs => .ins c (erf fs)
def ers : List OTr → List Val
  | [] => []
  | x :: xs => er x :: ers xs
def erd : List (Key × OTr) → List (Key × Val)
  | [] => []
  | (k, x) :: xs => (k, er x) :: erd xs
def erf : List (Str × OTr) → List (Str × Val)
  | [] => []
  | (k, x) :: xs => (k, er x) :: erf xs
end
theorem ers_len : ∀ xs : List OTr, (ers xs).length = xs.length
  | [] => by unfold ers; rfl
  | x :: xs => by unfold ers; rw [List.length_cons, ers_len xs, List.length_cons]
theorem erd_len : ∀ xs : List (Key × OTr), (erd xs).length = xs.length
  | [] => by unfold erd; rfl
  | (k, x) :: xs => by unfold erd; rw [List.length_cons, erd_len xs, List.length_cons]
mutual
inductive ORep (mg : Mg) (H : Hp) : OTr → V → List Addr → Prop
  | fz {v : Val} {x : V} : VRep mg H v x → ORep mg H (.fz v) x []
  | lst {a : Addr} {vs : List V} {xs : List OTr} {G : List Addr} : H a = some (.lst vs) → xs.length ≤ sizeLine → OReps mg H xs vs G → ORep mg H (.lst xs) (.ref a) (a :: G)
  | tup {a : Addr} {vs : List V} {xs : List OTr} {G : List Addr} : H a = some (.tup vs) → xs.length ≤ sizeLine → OReps mg H xs vs G → ORep mg H (.tup xs) (.ref a) G
  | dct {a : Addr} {ks : List (Key × V)} {kvs : List (Key × OTr)} {G : List Addr} : H a = some (.dK ks) → kvs.length ≤ sizeLine → ORepD mg H kvs ks G → ORep mg H (.dct kvs) (.ref a) (a :: G)
  | ins {a : Addr} {C dx : Addr} {vs : List (Str × V)} {c : Str} {fs : List (Str × OTr)} {G : List Addr} : H a = some (.ins C dx vs) → mg c = some (.ref C) → ORepF mg H fs vs G → ORep mg H (.ins c fs) (.ref a) (a :: G)
inductive OReps (mg : Mg) (H : Hp) : List OTr → List V → List Addr → Prop
  | nil : OReps mg H [] [] []
  | cons {x : OTr} {v : V} {xs : List OTr} {vs : List V} {G1 G2 : List Addr} : ORep mg H x v G1 → OReps mg H xs vs G2 → OReps mg H (x :: xs) (v :: vs) (G1 ++ G2)
inductive ORepD (mg : Mg) (H : Hp) : List (Key × OTr) → List (Key × V) → List Addr → Prop
  | nil : ORepD mg H [] [] []
  | cons {k : Key} {x : OTr} {v : V} {xs : List (Key × OTr)} {vs : List (Key × V)} {G1 G2 : List Addr} : ORep mg H x v G1 → ORepD mg H xs vs G2 → ORepD mg H ((k, x) :: xs) ((k, v) :: vs) (G1 ++ G2)
inductive ORepF (mg : Mg) (H : Hp) : List (Str × OTr) → List (Str × V) → List Addr → Prop
  | nil : ORepF mg H [] [] []
  | cons {k : Str} {x : OTr} {v : V} {xs : List (Str × OTr)} {vs : List (Str × V)} {G1 G2 : List Addr} : ORep mg H x v G1 → ORepF mg H xs vs G2 → ORepF mg H ((k, x) :: xs) ((k, v) :: vs) (G1 ++ G2)
end
abbrev Kp (G : List Addr) (H H' : Hp) : Prop := ∀ a ∈ G, ∀ o, H a = some o → H' a = some o
theorem Kp.l {G1 G2 : List Addr} {H H' : Hp} (k : Kp (G1 ++ G2) H H') : Kp G1 H H' := fun a ha => k a (List.mem_append_left _ ha)
theorem Kp.r {G1 G2 : List Addr} {H H' : Hp} (k : Kp (G1 ++ G2) H H') : Kp G2 H H' := fun a ha => k a (List.mem_append_right _ ha)
theorem Kp.t {a : Addr} {G : List Addr} {H H' : Hp} (k : Kp (a :: G) H H') : Kp G H H' := fun a ha => k a (List.mem_cons_of_mem _ ha)
mutual
theorem ORep.frame {mg : Mg} {H H' : Hp} (f : Fzs H H') : ∀ {x : OTr} {v : V} {G : List Addr}, ORep mg H x v G → Kp G H H' → ORep mg H' x v G
  | _, _, _, .fz h, _ => .fz (h.mono f)
  | _, _, _, .lst h z r, k => .lst (k _ List.mem_cons_self _ h) z (OReps.frame f r k.t)
  | _, _, _, .tup h z r, k => .tup (f _ _ trivial h) z (OReps.frame f r k)
  | _, _, _, .dct h z r, k => .dct (k _ List.mem_cons_self _ h) z (ORepD.frame f r k.t)
  | _, _, _, .ins h m r, k => .ins (k _ List.mem_cons_self _ h) m (ORepF.frame f r k.t)
theorem OReps.frame {mg : Mg} {H H' : Hp} (f : Fzs H H') : ∀ {x : List OTr} {v : List V} {G : List Addr}, OReps mg H x v G → Kp G H H' → OReps mg H' x v G
  | _, _, _, .nil, _ => .nil
  | _, _, _, .cons a b, k => .cons (ORep.frame f a k.l) (OReps.frame f b k.r)
theorem ORepD.frame {mg : Mg} {H H' : Hp} (f : Fzs H H') : ∀ {x : List (Key × OTr)} {v : List (Key × V)} {G : List Addr}, ORepD mg H x v G → Kp G H H' → ORepD mg H' x v G
  | _, _, _, .nil, _ => .nil
  | _, _, _, .cons a b, k => .cons (ORep.frame f a k.l) (ORepD.frame f b k.r)
theorem ORepF.frame {mg : Mg} {H H' : Hp} (f : Fzs H H') : ∀ {x : List (Str × OTr)} {v : List (Str × V)} {G : List Addr}, ORepF mg H x v G → Kp G H H' → ORepF mg H' x v G
  | _, _, _, .nil, _ => .nil
  | _, _, _, .cons a b, k => .cons (ORep.frame f a k.l) (ORepF.frame f b k.r)
end
abbrev Muts (G : List Addr) (H : Hp) : Prop := ∀ a ∈ G, ∃ o, H a = some o ∧ Mut (some o)
theorem Muts.cons {a : Addr} {G : List Addr} {H : Hp} {o : HO} (h : H a = some o) (m : Mut (some o)) (t : Muts G H) : Muts (a :: G) H := fun b hb => by
  rcases List.mem_cons.mp hb with e | hb
  · rw [e]; exact ⟨o, h, m⟩
  · exact t b hb
theorem Muts.app {G1 G2 : List Addr} {H : Hp} (a : Muts G1 H) (b : Muts G2 H) : Muts (G1 ++ G2) H := fun x hx => (List.mem_append.mp hx).elim (a x) (b x)
mutual
theorem ORep.cells {mg : Mg} {H : Hp} : ∀ {x : OTr} {v : V} {G : List Addr}, ORep mg H x v G → Muts G H
  | _, _, _, .fz _ => fun _ h => absurd h List.not_mem_nil
  | _, _, _, .lst h _ r => Muts.cons h trivial (OReps.cells r)
  | _, _, _, .tup _ _ r => OReps.cells r
  | _, _, _, .dct h _ r => Muts.cons h trivial (ORepD.cells r)
  | _, _, _, .ins h _ r => Muts.cons h trivial (ORepF.cells r)
theorem OReps.cells {mg : Mg} {H : Hp} : ∀ {x : List OTr} {v : List V} {G : List Addr}, OReps mg H x v G → Muts G H
  | _, _, _, .nil => fun _ h => absurd h List.not_mem_nil
  | _, _, _, .cons a b => Muts.app (ORep.cells a) (OReps.cells b)
theorem ORepD.cells {mg : Mg} {H : Hp} : ∀ {x : List (Key × OTr)} {v : List (Key × V)} {G : List Addr}, ORepD mg H x v G → Muts G H
  | _, _, _, .nil => fun _ h => absurd h List.not_mem_nil
  | _, _, _, .cons a b => Muts.app (ORep.cells a) (ORepD.cells b)
theorem ORepF.cells {mg : Mg} {H : Hp} : ∀ {x : List (Str × OTr)} {v : List (Str × V)} {G : List Addr}, ORepF mg H x v G → Muts G H
  | _, _, _, .nil => fun _ h => absurd h List.not_mem_nil
  | _, _, _, .cons a b => Muts.app (ORep.cells a) (ORepF.cells b)
end
/-- locked: S holds all of the things' places -/
abbrev Lkd (S : List Addr) (H H1 : Hp) : Prop := ∀ a ∈ S, ∀ u, H a = some u → ∃ o, H1 a = some (.frz o u)
theorem Lkd.l {G1 G2 : List Addr} {H H' : Hp} (k : Lkd (G1 ++ G2) H H') : Lkd G1 H H' := fun a ha => k a (List.mem_append_left _ ha)
theorem Lkd.r {G1 G2 : List Addr} {H H' : Hp} (k : Lkd (G1 ++ G2) H H') : Lkd G2 H H' := fun a ha => k a (List.mem_append_right _ ha)
theorem Lkd.t {a : Addr} {G : List Addr} {H H' : Hp} (k : Lkd (a :: G) H H') : Lkd G H H' := fun a ha => k a (List.mem_cons_of_mem _ ha)
mutual
theorem ORep.lockd {mg : Mg} {H H1 : Hp} (f : Fzs H H1) : ∀ {x : OTr} {v : V} {G : List Addr}, ORep mg H x v G → Lkd G H H1 → VRep mg H1 (er x) v
  | _, _, _, .fz h, _ => by unfold er; exact h.mono f
  | _, _, _, .lst h z r, k => by
    obtain ⟨o, ho⟩ := k _ List.mem_cons_self _ h
    unfold er
    exact .lst ho (by rw [ers_len]; exact z) (OReps.lockd f r k.t)
  | _, _, _, .tup h z r, k => by
    unfold er
    exact .tup (f _ _ trivial h) (by rw [ers_len]; exact z) (OReps.lockd f r k)
  | _, _, _, .dct h z r, k => by
    obtain ⟨o, ho⟩ := k _ List.mem_cons_self _ h
    unfold er
    exact .dct ho (by rw [erd_len]; exact z) (ORepD.lockd f r k.t)
  | _, _, _, .ins h m r, k => by
    obtain ⟨o, ho⟩ := k _ List.mem_cons_self _ h
    unfold er
    exact .ins ho m (ORepF.lockd f r k.t)
theorem OReps.lockd {mg : Mg} {H H1 : Hp} (f : Fzs H H1) : ∀ {x : List OTr} {v : List V} {G : List Addr}, OReps mg H x v G → Lkd G H H1 → VReps mg H1 (ers x) v
  | _, _, _, .nil, _ => by unfold ers; exact .nil
  | _, _, _, .cons a b, k => by unfold ers; exact .cons (ORep.lockd f a k.l) (OReps.lockd f b k.r)
theorem ORepD.lockd {mg : Mg} {H H1 : Hp} (f : Fzs H H1) : ∀ {x : List (Key × OTr)} {v : List (Key × V)} {G : List Addr}, ORepD mg H x v G → Lkd G H H1 → VRepD mg H1 (erd x) v
  | _, _, _, .nil, _ => by unfold erd; exact .nil
  | _, _, _, .cons a b, k => by unfold erd; exact .cons (ORep.lockd f a k.l) (ORepD.lockd f b k.r)
theorem ORepF.lockd {mg : Mg} {H H1 : Hp} (f : Fzs H H1) : ∀ {x : List (Str × OTr)} {v : List (Str × V)} {G : List Addr}, ORepF mg H x v G → Lkd G H H1 → VRepF mg H1 (erf x) v
  | _, _, _, .nil, _ => by unfold erf; exact .nil
  | _, _, _, .cons a b, k => by unfold erf; exact .cons (ORep.lockd f a k.l) (ORepF.lockd f b k.r)
end
def oU (mg : Mg) (t : OTr) : Od where
  pr G H v := ORep mg H t v G
  pd := pU mg (er t)
  frame := fun h k f => h.frame f k
  cells := fun h => h.cells
  lockd := fun h h1 h2 => h.lockd (lk_fzs h.cells h1) h2
end L3
end
section
set_option Elab.async false
set_option linter.all false
set_option maxRecDepth 100000
set_option maxHeartbeats 4000000
namespace L3
open PySem PySem.Spec PyProof.Rows L2
/-! ### equality of data with texts in them -/
structure Dg {α : Type} [DecidableEq α] (E : α → Pd) where
  toD : α → PyData
  dp : ∀ {K H v x}, (E x).pr H v → Dp K H v (toD x)
  dep : Nat
  ok : α → Bool
  can : ∀ x, ok x = true → (toD x).canLay0 = true
  deep : ∀ x, (toD x).depth ≤ dep
  eq : ∀ x y, PyData.eqv (toD x) (toD y) = decide (x = y)
def strOk (x : Str) : Bool := PyData.strOk x
def Dt.g {α : Type} [DecidableEq α] {E : α → Pd} (d : Dt E) : Dg E := ⟨d.toD, d.dp, d.dep, fun _ => true, fun x _ => d.can x, d.deep, d.eq⟩
def dgInt : Dg pInt := dtInt.g
def dgBl : Dg pBl := dtBl.g
def dgStr : Dg pStr := ⟨.str, fun h => by rw [h]; exact .str _, 0, strOk, fun x h => h, fun _ => Nat.le_refl 0, fun x y => by show (x == y) = _; by_cases h : x = y <;> simp [h]⟩
def dgT2 {α β : Type} {E : α → Pd} {G : β → Pd} [DecidableEq α] [DecidableEq β] (d : Dg E) (e : Dg G) : Dg (pT2 E G) := ⟨fun x => .tuple [d.toD x.1, e.toD x.2], fun ⟨a, u, w, ev, h, p, q⟩ => by rw [ev]; exact .tup (.inl (.inl h)) (.cons (d.dp p) (.cons (e.dp q) .nil)), max d.dep e.dep + 1, fun x => d.ok x.1 && e.ok x.2, fun x h => by
  obtain ⟨h1, h2⟩ := Bool.and_eq_true_iff.mp h
  show (PyData.canLay0 (d.toD x.1) && (PyData.canLay0 (e.toD x.2) && true)) = true
  rw [d.can _ h1, e.can _ h2]; rfl, fun x => by
  show PyData.depthAll [d.toD x.1, e.toD x.2] + 1 ≤ _
  have h1 := d.deep x.1
  have h2 := e.deep x.2
  have : PyData.depthAll [d.toD x.1, e.toD x.2] = max (PyData.depth (d.toD x.1)) (max (PyData.depth (e.toD x.2)) 0) := rfl
  rw [this]
  omega, fun x y => by
  show (PyData.eqv (d.toD x.1) (d.toD y.1) && (PyData.eqv (e.toD x.2) (e.toD y.2) && true)) = _
  rw [d.eq, e.eq]
  obtain ⟨x1, x2⟩ := x
  obtain ⟨y1, y2⟩ := y
  by_cases h1 : x1 = y1 <;> by_cases h2 : x2 = y2 <;> simp [h1, h2]⟩
def dgT3 {α β δ : Type} {E : α → Pd} {G : β → Pd} {K : δ → Pd} [DecidableEq α] [DecidableEq β] [DecidableEq δ] (d : Dg E) (e : Dg G) (f : Dg K) : Dg (pT3 E G K) := ⟨fun x => .tuple [d.toD x.1, e.toD x.2.1, f.toD x.2.2], fun ⟨a, u, w, z, ev, h, p, q, r⟩ => by rw [ev]; exact .tup (.inl (.inl h)) (.cons (d.dp p) (.cons (e.dp q) (.cons (f.dp r) .nil))), max d.dep (max e.dep f.dep) + 1, fun x => d.ok x.1 && (e.ok x.2.1 && f.ok x.2.2), fun x h => by
  obtain ⟨h1, h⟩ := Bool.and_eq_true_iff.mp h
  obtain ⟨h2, h3⟩ := Bool.and_eq_true_iff.mp h
  show (PyData.canLay0 (d.toD x.1) && (PyData.canLay0 (e.toD x.2.1) && (PyData.canLay0 (f.toD x.2.2) && true))) = true
  rw [d.can _ h1, e.can _ h2, f.can _ h3]; rfl, fun x => by
  show PyData.depthAll [d.toD x.1, e.toD x.2.1, f.toD x.2.2] + 1 ≤ _
  have h1 := d.deep x.1
  have h2 := e.deep x.2.1
  have h3 := f.deep x.2.2
  have : PyData.depthAll [d.toD x.1, e.toD x.2.1, f.toD x.2.2] = max (PyData.depth (d.toD x.1)) (max (PyData.depth (e.toD x.2.1)) (max (PyData.depth (f.toD x.2.2)) 0)) := rfl
  rw [this]
  omega, fun x y => by
  show (PyData.eqv (d.toD x.1) (d.toD y.1) && (PyData.eqv (e.toD x.2.1) (e.toD y.2.1) && (PyData.eqv (f.toD x.2.2) (f.toD y.2.2) && true))) = _
  rw [d.eq, e.eq, f.eq]
  obtain ⟨x1, x2, x3⟩ := x
  obtain ⟨y1, y2, y3⟩ := y
  by_cases h1 : x1 = y1 <;> by_cases h2 : x2 = y2 <;> by_cases h3 : x3 = y3 <;> simp [h1, h2, h3]⟩
theorem gdp_all {α : Type} {E : α → Pd} [DecidableEq α] (d : Dg E) {K : PySem.W.Frag} {H : Hp} : ∀ {xs : List α} {vs : List V}, Paired (fun x u => (E x).pr H u) xs vs → DpAll K H vs (xs.map d.toD)
  | _, _, .nil => .nil
  | _, _, .cons r t => .cons (d.dp r) (gdp_all d t)
theorem gcan_all {α : Type} {E : α → Pd} [DecidableEq α] (d : Dg E) : ∀ xs : List α, xs.all d.ok = true → PyData.canLayAll0 (xs.map d.toD) = true
  | [], _ => rfl
  | x :: xs, h => by
    rw [List.all_cons] at h
    obtain ⟨h1, h2⟩ := Bool.and_eq_true_iff.mp h
    show (PyData.canLay0 (d.toD x) && PyData.canLayAll0 (xs.map d.toD)) = true
    rw [d.can x h1, gcan_all d xs h2]; rfl
theorem gdeep_all {α : Type} {E : α → Pd} [DecidableEq α] (d : Dg E) : ∀ xs : List α, PyData.depthAll (xs.map d.toD) ≤ d.dep
  | [] => Nat.zero_le _
  | x :: xs => Nat.max_le.mpr ⟨d.deep x, gdeep_all d xs⟩
theorem geqv_all {α : Type} {E : α → Pd} [DecidableEq α] (d : Dg E) : ∀ xs ys : List α, PyData.eqvAll (xs.map d.toD) (ys.map d.toD) = decide (xs = ys)
  | [], [] => rfl
  | [], _ :: _ => rfl
  | _ :: _, [] => rfl
  | x :: xs, y :: ys => by
    show (PyData.eqv (d.toD x) (d.toD y) && PyData.eqvAll (xs.map d.toD) (ys.map d.toD)) = _
    rw [d.eq, geqv_all d xs ys]
    by_cases h : x = y <;> by_cases h2 : xs = ys <;> simp [h, h2]
def dgL {α : Type} {E : α → Pd} [DecidableEq α] (d : Dg E) : Dg (pL E) := ⟨fun xs => .list (xs.map d.toD), fun ⟨a, o, vs, e, h, z, p⟩ => by rw [e]; exact .lst (.inl (.inr ⟨o, h⟩)) (gdp_all d p), d.dep + 1, fun xs => xs.all d.ok, fun xs h => gcan_all d xs h, fun xs => Nat.succ_le_succ (gdeep_all d xs), fun xs ys => geqv_all d xs ys⟩
def dgTL {α : Type} {E : α → Pd} [DecidableEq α] (d : Dg E) : Dg (pTL E) := ⟨fun xs => .tuple (xs.map d.toD), fun ⟨a, vs, e, h, z, p⟩ => by rw [e]; exact .tup (.inl (.inl h)) (gdp_all d p), d.dep + 1, fun xs => xs.all d.ok, fun xs h => gcan_all d xs h, fun xs => Nat.succ_le_succ (gdeep_all d xs), fun xs ys => geqv_all d xs ys⟩
theorem Dg.sh {α : Type} {E : α → Pd} [DecidableEq α] (d : Dg E) (hd : d.dep < 60) {x : α} (h : d.ok x = true) : SeqAt.shaped (d.toD x) = true := by
  show (PyData.canLay0 (d.toD x) && decide (PyData.depth (d.toD x) ≤ 64)) = true
  rw [d.can x h, decide_eq_true (by have := d.deep x; omega)]; rfl
section
variable {X : Cx} {W : Bool} {F : Fm} {Γ : Gm} {Δ : Δs} {γ : Type} {a b : Expr} {pos : Pos} {β1 β2 α : Type} [DecidableEq α] {T : Option γ} {k1 : β1 → Option γ} {k : β1 × β2 → Option γ} {Δ1 : β1 → Δs} {Δ2 : β1 → β2 → Δs} {Ee : α → Pd} {x : β1 → α} {y : β1 → β2 → α}
/-- both are fit to be compared -/
def okG (d : Dg Ee) (x y : α) : Bool := d.ok x && d.ok y
theorem x_eqG (d : Dg Ee) (hu : X.A.units + 64 < cLine) (ha : PE X a (tE W F Γ Δ T k1 (fun b => Ee (x b)) Δ1)) (hb : ∀ b1, PE X b (tE W F Γ (Δ1 b1) (k1 b1) (fun b2 => grd (okG d (x b1) (y b1 b2) = true) (k (b1, b2))) (fun b2 => Ee (y b1 b2)) (Δ2 b1))) (hd : d.dep < 60 := by decide) :
    PE X (.Compare a [.Eq] [b] pos) (tE W F Γ Δ T k (fun b => pBl (decide (x b.1 = y b.1 b.2))) fun b => Δ2 b.1 b.2) :=
  x2g (b_cmp (op_eqD hu) (nomark _)) ha hb fun b1 b2 σ v w H Q ok c hv hw q => by
    obtain ⟨c1, c2⟩ := Bool.and_eq_true_iff.mp c
    exact ⟨_, _, d.dp hv, d.dp hw, d.sh hd c1, d.sh hd c2, by rw [d.eq]; exact q _ rfl⟩
theorem x_neG (d : Dg Ee) (hu : X.A.units + 64 < cLine) (ha : PE X a (tE W F Γ Δ T k1 (fun b => Ee (x b)) Δ1)) (hb : ∀ b1, PE X b (tE W F Γ (Δ1 b1) (k1 b1) (fun b2 => grd (okG d (x b1) (y b1 b2) = true) (k (b1, b2))) (fun b2 => Ee (y b1 b2)) (Δ2 b1))) (hd : d.dep < 60 := by decide) :
    PE X (.Compare a [.NotEq] [b] pos) (tE W F Γ Δ T k (fun b => pBl (!decide (x b.1 = y b.1 b.2))) fun b => Δ2 b.1 b.2) :=
  x2g (b_cmp (op_neD hu) (nomark _)) ha hb fun b1 b2 σ v w H Q ok c hv hw q => by
    obtain ⟨c1, c2⟩ := Bool.and_eq_true_iff.mp c
    exact ⟨_, _, d.dp hv, d.dp hw, d.sh hd c1, d.sh hd c2, by rw [d.eq]; exact q _ rfl⟩
end
section
variable {X : Cx} {W : Bool} {F : Fm} {Γ : Gm} {Δ : Δs} {γ : Type}
/-! ### range(i, j, -1) -/
def rngD (lo : Int) (n : Nat) : List Int := (List.range n).map fun (i : Nat) => lo - (i : Int)
theorem rngD_len (lo : Int) (n : Nat) : (rngD lo n).length = n := by unfold rngD; rw [List.length_map, List.length_range]
theorem rngD_walk {lo : Int} {n : Nat} {H : Hp} : WalkF (Itc lo (-1) n) pInt (rngD lo n) H := fun H2 f2 i => by
  rw [rngD_len]
  refine ⟨fun h => h, fun h => h, fun x v H3 hx hy => ?_⟩
  obtain ⟨e1, e2⟩ := hy
  subst e1
  refine ⟨Gr.refl _, ?_⟩
  unfold rngD at hx
  rw [List.getElem?_map] at hx
  cases hr : (List.range n)[i]? with
  | none => rw [hr] at hx; cases hx
  | some m =>
    rw [hr] at hx
    have hi : i < n := by
      have := (List.getElem?_eq_some_iff.mp hr).1
      rwa [List.length_range] at this
    rw [List.getElem?_range hi] at hr
    cases hr
    have hx : lo - (i : Int) = x := by simpa using hx
    rw [← hx, e2, show lo + (i : Int) * (-1) = lo - (i : Int) by omega]
    rfl
theorem i_rngD {tg a b c : Expr} {p pos : Pos} {β1 β2 : Type} {T : Option γ} {k1 : β1 → Option γ} {k : β1 × β2 → Option γ} {m : β1 → Int} {n : β1 → β2 → Int} {Δ1 : β1 → Δs} {Δ2 : β1 → β2 → Δs} (hm : X.mg "range" = none) (ha : PE X a (tE W F Γ Δ T k1 (fun b => pInt (m b)) Δ1))
    (hb : ∀ b1, PE X b (tE W F Γ (Δ1 b1) (k1 b1) (fun b2 => grd (rg2 (n b1 b2) (m b1) = true) (k (b1, b2))) (fun b2 => pInt (n b1 b2)) (Δ2 b1))) (hc : PE X c (tC (.int (-1)))) (hg : Gl X "range" := by rfl)
    (hs3 : starEach [c] X.env = (false, eval c X.env) :: starEach [] X.env := by rfl) (hs2 : starEach [b, c] X.env = (false, eval b X.env) :: starEach [c] X.env := by rfl) (hs : starEach [a, b, c] X.env = (false, eval a X.env) :: starEach [b, c] X.env := by rfl) (hpl : (backTo pos (starEach [b, c] X.env)).any (·.1) = false := by rfl) : PI X tg (.Call (.Name "range" p) [a, b, c] [] pos) (tI W F Γ Δ T k pInt (fun b => rngD (m b.1) (m b.1 - n b.1 b.2).toNat) fun b => Δ2 b.1 b.2) :=
  (pi_range3 hg hm (pa_cons ha (pa_cons (pe_ex hb) (pa_cons hc pa_nil hs3) hs2) hs) hs hpl).wk fun σ H R ⟨ok, g, e, q⟩ => ⟨ok, g, e, fun b1 v1 H1 kb1 f1 ok1 hv1 => ⟨b1, ok1, g, kb1, fun b2 v2 H2 kb2 f2 ok2 hv2 => by
    obtain ⟨c, kb⟩ := grd_some kb2
    obtain ⟨c1, c⟩ := Bool.and_eq_true_iff.mp c
    obtain ⟨c2, c⟩ := Bool.and_eq_true_iff.mp c
    obtain ⟨c3, c⟩ := Bool.and_eq_true_iff.mp c
    obtain ⟨c4, c5⟩ := Bool.and_eq_true_iff.mp c
    have c5 := of_decide_eq_true c5
    have hv1 : v1 = .int (m b1) := hv1
    have hv2 : v2 = .int (n b1 b2) := hv2
    subst hv1 hv2
    exact ⟨m b1, n b1 b2, -1, _, rfl, RgC.neg (of_decide_eq_true c3) (of_decide_eq_true c4) (of_decide_eq_true c1) (of_decide_eq_true c2), q (b1, b2) _ H2 kb (f1.trans f2) ok2 (by rw [rngD_len]; have : sizeLine = 16777216 := rfl; dsimp only; omega) rngD_walk⟩⟩⟩
/-! ### a, b = e -/
theorem s_unp {tg e : Expr} {pos : Pos} {g : TG} {α β : Type} {T : Option γ} {N : Fn γ} {rest : List Stmt} {Ex : α → Pd} {bd : Gm → α → Gm} {Δ' : β → Δs} {val : β → α} {k2 : β → α → Option γ} (hg : PG X tg g) (ht : Tgt g Ex bd) (he : PE X e (tE true F Γ Δ T (fun b => (some (val b)).bind (k2 b)) (fun b => Ex (val b)) Δ'))
    (hr : ∀ b a, PSs X rest (tS F (bd Γ a) (Δ' b) N (k2 b a))) (hs : swapsWithSole [tg] e pos.line X.env = pure false := by rfl) (hw : swappedStores [tg] e X.env = pure none := by rfl) (h1 : (assignEach [tg] X.env).map (·.2) = [assign tg X.env] := by rfl) : PSs X (.Assign [tg] e pos :: rest) (tS F Γ Δ N T) :=
  (pss_cons (ps_asg he hg hs hw h1) (pss_ex fun b => hr b (val b))).wk fun D σ H ⟨ok, g, e, f⟩ => ⟨ok, g, e, fun b v H' kb fz ok' hv => ht F Γ _ σ H' (val b) v _ ok' hv fun σ' ok2 => ⟨b, ok2, g, kb, N.mono f fz.fz⟩⟩
/-! ### xs.reverse() -/
theorem Own3.rev {α : Type} {D : α → Od} {H : Hp} : ∀ {xs : List α} {vs : List V} {gs : List (List Addr)}, Own3 D H xs vs gs → Own3 D H xs.reverse vs.reverse gs.reverse
  | _, _, _, .nil => .nil
  | _, _, _, .cons r t => by
    rw [List.reverse_cons, List.reverse_cons, List.reverse_cons]
    exact t.rev.app r
theorem x_revO {o : Expr} {apos cpos : Pos} {β α : Type} {T : Option γ} {k : β → Option γ} {Δ1 : β → Δs} {D : α → Od} {xs : β → List α} {v : V} {prm : Option Nat} (j : Nat) (ho : PE X o (tE true F Γ Δ T k (fun _ => pV v) Δ1)) (hj : ∀ b, (Δ1 b)[j]? = some ⟨v, oLO D (xs b), prm⟩)
    (hbase : attributeBase o "reverse" X.env (eval o X.env) = eval o X.env := by rfl) (hline : (apos.endLine == cpos.line) = true := by rfl) :
    PE X (.Call (.Attribute o "reverse" apos) [] [] cpos) (tE true F Γ Δ T k (fun _ => pNon) fun b => (Δ1 b).set j ⟨v, oLO D (xs b).reverse, prm⟩) :=
  (pe_bm0 PySem.F.plainAttrs_list PySem.F.slot_list_reverse PySem.F.type_list_reverse mt_reverse ho hbase hline).wk fun σ H Q ⟨ok, g, e, q⟩ => ⟨ok, g, e, fun b u H1 kb f ok1 hu => by
    have hu : u = v := hu
    subst hu
    obtain ⟨G, ⟨p, vs, gs, eG, ev, hp, z, o3⟩, nd, turn⟩ := ok1.cellG (hj b)
    have eG : G = p :: gs.flatten := eG
    subst eG
    have ev : u = .ref p := ev
    have pG : p ∉ gs.flatten := (List.nodup_cons.mp nd).1
    have fzm : Fzs H1 (upd H1 p (.lst vs.reverse)) := Fzs.mut hp fun z => z
    have kp : ∀ a o, a ≠ p → H1 a = some o → upd H1 p (.lst vs.reverse) a = some o := fun a o na e => by rw [upd_ne na]; exact e
    have pm : gs.reverse.flatten.Perm gs.flatten := (List.reverse_perm gs).flatten
    obtain ⟨ok3, f3⟩ := turn (upd H1 p (.lst vs.reverse)) (oLO D (xs b).reverse) (p :: gs.reverse.flatten) (fun a o na e => kp a o (fun z => na (by rw [z]; exact List.mem_cons_self)) e) (fun a ha => by
        rcases List.mem_cons.mp ha with e | h
        · rw [e]; exact ⟨_, upd_same⟩
        · obtain ⟨o, e, _⟩ := o3.cells a h; exact upd_dom _ _ a o e) (List.nodup_cons.mpr ⟨fun h => pG (pm.mem_iff.mp h), pm.nodup_iff.mpr (List.nodup_cons.mp nd).2⟩) (fun a ha => .inl (by
        rcases List.mem_cons.mp ha with e | h
        · rw [e]; exact List.mem_cons_self
        · exact List.mem_cons_of_mem _ (pm.mem_iff.mp h))) ⟨p, vs.reverse, gs.reverse, rfl, ev, upd_same, by rw [List.length_reverse]; exact z, (o3.frame fzm fun a ha o e => kp a o (fun z => pG (by rw [← z]; exact ha)) e).rev⟩
    exact ⟨by rw [ev]; exact .inl ⟨rfl, vs, .inl (.inl hp)⟩, p, vs, ev, rfl, hp, q b .non _ kb (f.trans f3) ok3 rfl⟩⟩
/-! ### i in s, s a set of one's own -/
section
variable {a b : Expr} {pos : Pos} {β1 β2 : Type} {T : Option γ} {k1 : β1 → Option γ} {k : β1 × β2 → Option γ} {Δ1 : β1 → Δs} {Δ2 : β1 → β2 → Δs} {i : β1 → Int} {v0 : V} {xs : β1 → β2 → List Int} {prm : Option Nat}
theorem x_inSet (j : Nat) (ha : PE X a (tE W F Γ Δ T k1 (fun b => pInt (i b)) Δ1)) (hb : ∀ b1, PE X b (tE W F Γ (Δ1 b1) (k1 b1) (fun b2 => k (b1, b2)) (fun _ => pV v0) (Δ2 b1))) (hj : ∀ b1 b2, (Δ2 b1 b2)[j]? = some ⟨v0, oSet X.w (xs b1 b2), prm⟩) (hmk : behindInMarks .In b = false := by rfl) :
    PE X (.Compare a [.In] [b] pos) (tE W F Γ Δ T k (fun b => pBl (decide (i b.1 ∈ xs b.1 b.2))) fun b => Δ2 b.1 b.2) :=
  x2t (b_cmp or_sin hmk) ha hb (v_inSet j hj)
theorem t_inSet (j : Nat) (ha : PE X a (tE W F Γ Δ T k1 (fun b => pInt (i b)) Δ1)) (hb : ∀ b1, PE X b (tE W F Γ (Δ1 b1) (k1 b1) (fun b2 => k (b1, b2)) (fun _ => pV v0) (Δ2 b1))) (hj : ∀ b1 b2, (Δ2 b1 b2)[j]? = some ⟨v0, oSet X.w (xs b1 b2), prm⟩) (hmk : behindInMarks .In b = false := by rfl) :
    PT X (.Compare a [.In] [b] pos) (tTs W F Γ Δ T k (fun b => decide (i b.1 ∈ xs b.1 b.2)) fun b => Δ2 b.1 b.2) :=
  t2t (bt_cmp or_sin hmk) ha hb (v_inSet j hj)
end
end
end L3
end
section
set_option Elab.async false
set_option linter.all false
set_option maxRecDepth 100000
set_option maxHeartbeats 4000000
namespace L3
open PySem PySem.Spec PyProof.Rows L2
/-! ### [e for x in xs for y in ys] -/
def comp2 {α δ : Type} : List α → (α → Option (List δ)) → Option (List δ)
  | [], _ => some []
  | x :: xs, f => (f x).bind fun r => (comp2 xs f).bind fun t => some (r ++ t)
section
variable {X : Cx} {W : Bool} {F : Fm} {Γ : Gm} {Δ : Δs} {γ : Type}
variable {α α2 β β4 β5 δ : Type} {g g2 : TG} {own : List (Str × Nat)} {vs1 : List Nat} {T : Option γ} {k0 : β → Option γ} {k : β × List δ → Option γ} {Ex : α → Pd} {Ex2 : α2 → Pd} {Ee : δ → Pd} {bd : Gm → α → Gm} {bd2 : Gm → α2 → Gm} {xs : β → List α} {C : β → Δs} {f : β → α → Option (List δ)}
    {ys : β → α → β4 → List α2} {h : β → α → β4 → α2 → Option δ} {e : β → α → β4 → α2 → β5 → δ}
abbrev l2I (W : Bool) (F : Fm) (Γ : Gm) (own : List (Str × Nat)) (bd : Gm → α → Gm) (C : β → Δs) (f : β → α → Option (List δ)) (Ex2 : α2 → Pd) (ys : β → α → β4 → List α2) (h : β → α → β4 → α2 → Option δ) : TI := fun σ H R => ∃ d b x, tI W F (bd (wipeG Γ (own.map (·.2))) x) (C b ++ [d]) (f b x) (fun b4 => (compM (ys b x b4) () fun y _ => (h b x b4 y).bind fun z => some (some z, ())).bind fun r => some r.1) Ex2 (ys b x) (fun _ => C b ++ [d]) σ H R
abbrev l2E (W : Bool) (F : Fm) (Γ : Gm) (own : List (Str × Nat)) (vs1 : List Nat) (bd : Gm → α → Gm) (bd2 : Gm → α2 → Gm) (C : β → Δs) (h : β → α → β4 → α2 → Option δ) (Ee : δ → Pd) (e : β → α → β4 → α2 → β5 → δ) : TE := fun σ H Q => ∃ d b x b4 y, tE W F (bd2 (wipeG (bd (wipeG Γ (own.map (·.2))) x) vs1) y) (C b ++ [d]) (h b x b4 y) (fun b5 => some (e b x b4 y b5)) (fun b5 => Ee (e b x b4 y b5)) (fun _ => C b ++ [d]) σ H Q
def tTru : TT := fun _ H Q => Q true H
theorem compM_one {y : α2} {r : List α2} {hh : α2 → Option δ} {o : List δ × Unit} (ec : compM (y :: r) () (fun y _ => (hh y).bind fun z => some (some z, ())) = some o) : ∃ z o2, hh y = some z ∧ compM r () (fun y _ => (hh y).bind fun z => some (some z, ())) = some o2 ∧ o.1 = z :: o2.1 := by
  obtain ⟨q, eq, ec⟩ := bind_some (show ((hh y).bind fun z => some (some z, ())).bind _ = some o from ec)
  obtain ⟨z, ez, eq⟩ := bind_some eq
  cases eq
  obtain ⟨o2, e2, ec⟩ := bind_some ec
  cases ec
  exact ⟨z, o2, ez, e2, rfl⟩
/-- a new element is put at the end of what is made -/
theorem put_last {σ : SS} {Γ' : Gm} {Δc : Δs} {D : Addr} {acc : List δ} {z : δ} {w : V} {H6 : Hp} (ok6 : Ok F Γ' (Δc ++ [⟨.ref D, oL Ee acc, none⟩]) σ H6) (hw : (Ee z).pr H6 w) (hl : acc.length < sizeLine) : ∃ vs, H6 D = some (.lst vs) ∧ vs.length < sizeLine ∧ Hk F (Δc ++ [⟨.ref D, oL Ee (acc ++ [z]), none⟩]) (upd H6 D (.lst (vs ++ [w]))) ∧ St true H6 (upd H6 D (.lst (vs ++ [w]))) := by
  have hlast : (Δc ++ [⟨.ref D, oL Ee acc, none⟩] : Δs)[Δc.length]? = some ⟨.ref D, oL Ee acc, none⟩ := by rw [List.getElem?_append_right (Nat.le_refl _), Nat.sub_self]; rfl
  obtain ⟨G', ⟨D', vs, eG, eD, hD, zD, pD⟩, _, turn⟩ := ok6.hk.cell hlast
  cases eD
  subst eG
  have fzm : Fzs H6 (upd H6 D (.lst (vs ++ [w]))) := Fzs.mut hD fun z => z
  obtain ⟨hk7, st7⟩ := turn (upd H6 D (.lst (vs ++ [w]))) (oL Ee (acc ++ [z])) (fun a o na e => by
    rw [upd_ne fun z => na (by rw [z]; exact List.mem_singleton.mpr rfl)]; exact e)
    ⟨D, vs ++ [w], rfl, rfl, upd_same, by rw [List.length_append, List.length_singleton]; omega, paired_app (paired_mono (fun x _ => (Ee x).mono fzm) pD) (.cons ((Ee _).mono fzm hw) .nil)⟩
  refine ⟨vs, hD, by rw [← paired_len pD]; exact hl, ?_, st7⟩
  rw [List.set_append_right _ _ (Nat.le_refl _), Nat.sub_self] at hk7
  exact hk7
theorem l2_imp (hrun : ∀ b gg, k0 b = some gg → ∃ r, comp2 (xs b) (f b) = some r ∧ r.length ≤ sizeLine ∧ k (b, r) = some gg) (ht : TgtW g Ex bd (own.map (·.2))) (ht2 : TgtW g2 Ex2 bd2 vs1) :
    ∀ σ H Q, tO W F Γ Δ T k (fun b => oL Ee b.2) (fun b => C b.1) σ H Q → tLc2 (tI W F Γ Δ T k0 Ex xs C) g tTru (l2I W F Γ own bd C f Ex2 ys h) g2 tTru (l2E W F Γ own vs1 bd bd2 C h Ee e) (own.map (·.2)) vs1 σ H Q :=
  fun σ H Q ⟨ok0, gg, eT, q⟩ => ⟨ok0, gg, eT, fun b J H1 kb f1 ok1 zl wk D nD => by
    obtain ⟨rs, er, zr, kr⟩ := hrun b gg kb
    have grD : Gr H1 (upd H1 D (.lst [])) := Gr.new nD
    have hk0 : Hk F (C b ++ [⟨.ref D, oL Ee [], none⟩]) (upd H1 D (.lst [])) := (ok1.newL (W := true) (E := Ee) (xs := []) nD (Nat.zero_le _) .nil).1.ok.hk.perm (List.perm_append_singleton _ _).symm
    refine ⟨fun i m H' => i + m = (xs b).length ∧ St W H1 H' ∧ ∃ acc rest, Hk F (C b ++ [⟨.ref D, oL Ee acc, none⟩]) H' ∧ comp2 ((xs b).drop i) (f b) = some rest ∧ acc ++ rest = rs, ⟨(xs b).length, Nat.zero_add _, grD.st, [], rs, hk0, by rw [List.drop_zero]; exact er, rfl⟩, fun i m H2 ⟨em, st2, acc, rest, hk2, ec, ea⟩ => ?_⟩
    by_cases hi : i < (xs b).length
    · obtain ⟨x, hx, ed⟩ := drop_cons hi
      rw [ed] at ec
      obtain ⟨r, efx, ec⟩ := bind_some (show (f b x).bind _ = some rest from ec)
      obtain ⟨t, ert, ec⟩ := bind_some ec
      cases ec
      refine .inr ⟨((wk H2 st2.fz) i).1 hi, fun H' => (i + 1) + (m - 1) = (xs b).length ∧ St W H1 H' ∧ ∃ acc rest, Hk F (C b ++ [⟨.ref D, oL Ee acc, none⟩]) H' ∧ comp2 ((xs b).drop (i + 1)) (f b) = some rest ∧ acc ++ rest = rs, fun H' h => ⟨m - 1, by omega, h⟩, fun v H3 hy => ?_⟩
      obtain ⟨gr3, pv⟩ := ((wk H2 st2.fz) i).2.2 x v H3 hx hy
      have st3 : St W H1 H3 := st2.trans gr3.st
      refine ht F Γ _ σ H3 x v _ (ok1.wipe st3.fz (hk2.gr gr3) _) pv fun σ4 ew ok4 => ⟨ew, ?_⟩
      unfold tTru
      refine iteT ⟨⟨.ref D, oL Ee acc, none⟩, b, x, ok4, r, efx, fun b4 J1 H5 kb4 st5 ok5 zl5 wk5 => ?_⟩
      obtain ⟨⟨ri, u⟩, eci, eri⟩ := bind_some kb4
      have eri : ri = r := Option.some.inj eri
      refine ⟨fun jn mn H' => jn + mn = (ys b x b4).length ∧ Fzs H5 H' ∧ St W H1 H' ∧ ∃ acc2 rest2, Hk F (C b ++ [⟨.ref D, oL Ee acc2, none⟩]) H' ∧ compM ((ys b x b4).drop jn) () (fun y _ => (h b x b4 y).bind fun z => some (some z, ())) = some (rest2, ()) ∧ acc2 ++ rest2 = acc ++ r, ⟨(ys b x b4).length, Nat.zero_add _, Fzs.refl _, st3.trans st5, acc, r, ok5.hk, by rw [List.drop_zero, ← eri]; exact eci, rfl⟩, fun jn mn H6 ⟨emn, fz6, st6, acc2, rest2, hk6, ec2, ea2⟩ => ?_⟩
      by_cases hj : jn < (ys b x b4).length
      · obtain ⟨y, hy2, ed2⟩ := drop_cons hj
        rw [ed2] at ec2
        obtain ⟨z, o2, ez, eo2, e3⟩ := compM_one ec2
        refine .inr ⟨((wk5 H6 fz6) jn).1 hj, fun H' => (jn + 1) + (mn - 1) = (ys b x b4).length ∧ Fzs H5 H' ∧ St W H1 H' ∧ ∃ acc2 rest2, Hk F (C b ++ [⟨.ref D, oL Ee acc2, none⟩]) H' ∧ compM ((ys b x b4).drop (jn + 1)) () (fun y _ => (h b x b4 y).bind fun z => some (some z, ())) = some (rest2, ()) ∧ acc2 ++ rest2 = acc ++ r, fun H' h => ⟨mn - 1, by omega, h⟩, fun v2 H7 hy7 => ?_⟩
        obtain ⟨gr7, pv7⟩ := ((wk5 H6 fz6) jn).2.2 y v2 H7 hy2 hy7
        have st7 : St W H1 H7 := st6.trans gr7.st
        have fz7 : Fzs H5 H7 := fz6.trans gr7.fzs
        refine ht2 F _ _ σ4 H7 y v2 _ (ok5.wipe fz7 (hk6.gr gr7) _) pv7 fun σ8 ew8 ok8 => ⟨ew8, ?_⟩
        refine iteT ⟨⟨.ref D, oL Ee acc2, none⟩, b, x, b4, y, ok8, z, ez, fun b5 w H9 kb5 st9 ok9 hw => ?_⟩
        have ez5 : e b x b4 y b5 = z := Option.some.inj kb5
        have hw : (Ee (e b x b4 y b5)).pr H9 w := hw
        rw [ez5] at hw
        have e3 : rest2 = z :: o2.1 := e3
        have hlen : acc2.length < sizeLine := by
          have l1 : (acc2 ++ rest2).length = (acc ++ r).length := congrArg List.length ea2
          have l2 : (acc ++ (r ++ t)).length = rs.length := congrArg List.length ea
          rw [e3, List.length_append, List.length_append, List.length_cons] at l1
          rw [List.length_append, List.length_append] at l2
          omega
        obtain ⟨vs, hD, hz, hk10, st10⟩ := put_last ok9 hw hlen
        refine ⟨vs, hD, hz, by omega, (fz7.trans st9.fz).trans st10.fz, ⟨(st7.fz.trans st9.fz).trans st10.fz, fun hW a o ea => ?_, fun a o ea => ?_⟩, acc2 ++ [z], o2.1, hk10, eo2, by rw [← ea2, e3, List.append_assoc]; rfl⟩
        · rw [upd_ne (ne_of_none ea nD)]
          exact (st7.trans st9).kp hW a o ea
        · obtain ⟨u, eu⟩ := (st7.trans st9).dom a o ea
          exact st10.dom a u eu
      · refine .inl ⟨((wk5 H6 fz6) jn).2.1 (by omega), by omega, st6, acc2, t, hk6, ert, ?_⟩
        rw [List.drop_eq_nil_of_le (by omega)] at ec2
        have ec2 : some (([] : List δ), ()) = some (rest2, ()) := ec2
        cases ec2
        rw [List.append_nil] at ea2
        rw [ea2, List.append_assoc]
        exact ea
    · refine .inl ⟨((wk H2 st2.fz) i).2.1 (by omega), ?_⟩
      rw [List.drop_eq_nil_of_le (by omega)] at ec
      have ec : some ([] : List δ) = some rest := ec
      cases ec
      rw [List.append_nil] at ea
      subst ea
      have hkf := hk2.perm (List.perm_append_singleton _ _)
      exact q (b, acc) _ H2 kr (f1.trans st2) (hkf.one (ok1.nm.mono st2.fz) (f1.back nD))⟩
theorem pts_tru {Y : Cx} : PTs Y [] tTru := ⟨fun pins s σ H Q I q => pts_nil.run pins s σ H Q I q⟩
theorem x_T {Y : Cx} {β : Type} {Γ : Gm} {Δ : Δs} {γ : Type} {e : Expr} {T T' : Option γ} {k : β → Option γ} {E : β → Pd} {Δ' : β → Δs} (h : PE Y e (tE W F Γ Δ T' k E Δ')) (hT : T = T') : PE Y e (tE W F Γ Δ T k E Δ') := by rw [hT]; exact h
theorem i_T {Y : Cx} {β α : Type} {Γ : Gm} {Δ : Δs} {γ : Type} {tg e : Expr} {T T' : Option γ} {k : β → Option γ} {Ex : α → Pd} {xs : β → List α} {Δ' : β → Δs} (h : PI Y tg e (tI W F Γ Δ T' k Ex xs Δ')) (hT : T = T') : PI Y tg e (tI W F Γ Δ T k Ex xs Δ') := by rw [hT]; exact h
theorem wipe_set {v : Option V} : ∀ {vs : List Nat} {σ : SS} {i : Nat}, i ∈ vs → L2.wipe (σ.set i v) vs = L2.wipe σ vs
  | [], _, _, h => absurd h List.not_mem_nil
  | j :: vs, σ, i, h => by
    show (L2.wipe (σ.set i v) vs).set j none = (L2.wipe σ vs).set j none
    by_cases hi : i ∈ vs
    · rw [wipe_set hi]
    · rcases List.mem_cons.mp h with e | h
      · subst e
        have : ∀ {vs : List Nat} {σ : SS}, i ∉ vs → L2.wipe (σ.set i v) vs = (L2.wipe σ vs).set i v := by
          intro vs
          induction vs with
          | nil => intro σ _; rfl
          | cons k vs ih =>
            intro σ hk
            rw [List.mem_cons, not_or] at hk
            show (L2.wipe (σ.set i v) vs).set k none = ((L2.wipe σ vs).set k none).set i v
            rw [ih hk.2, List.set_comm _ _ (fun z => hk.1 z)]
        rw [this hi, List.set_set]
      · exact absurd h hi
theorem wipe_wipe : ∀ {vs : List Nat} {us : List Nat} {σ : SS}, (∀ i ∈ us, i ∈ vs) → L2.wipe (L2.wipe σ us) vs = L2.wipe σ vs
  | vs, [], σ, _ => rfl
  | vs, u :: us, σ, h => by
    show L2.wipe ((L2.wipe σ us).set u none) vs = _
    rw [wipe_set (h u List.mem_cons_self), wipe_wipe fun i hi => h i (List.mem_cons_of_mem _ hi)]
theorem tw_in {α : Type} {Ex : α → Pd} {vs : List Nat} (i : Nat) (hi : i ∈ vs) : TgtW (gName i) Ex (fun Γ x => Γ.set i (some (Ex x))) vs := fun _ _ _ σ _ _ _ _ ok hv q => q _ (by
  rw [wipe_set hi, wipe_wipe fun _ h => h]) (ok.set hv)
theorem pe_m1 {j : Nat} {p pos : Pos} : PE X (.UnaryOp .USub (.Constant (.int 1) j p) pos) (tC (.int (-1))) := (pe_un un_neg pe_int).wk fun σ H Q q => ⟨1, rfl, q⟩
/-- [e for x in xs for y in ys] -/
theorem x_lc2 {elt tg iter tg1 iter1 : Expr} {scope : Scope} {pos : Pos} (nd : X.N.Nodup) (hi : PI X tg iter (tI W F Γ Δ T (fun b => (comp2 (xs b) (f b)).bind fun r => grd (r.length ≤ sizeLine) (k (b, r))) Ex xs C)) (ok : BlkOk X.N X.env.scope scope own) (hv : ∀ i ∈ vs1, i ∈ own.map (·.2))
    (hg : Blk X scope fun Y => PG Y tg g) (ht : TgtW g Ex bd (own.map (·.2))) (hg2 : Blk X scope fun Y => PG Y tg1 g2) (ht2 : TgtW g2 Ex2 bd2 vs1)
    (hi1 : ∀ (d : Cell), ∀ (s : Shared) (H : Hp) (Ca : Addr) (cl : List (Str × Addr)) (fp : List Addr) (b : β) (x : α), PI (X.blk s H scope (compEnvC scope cl Ca X.env) fp) tg1 iter1 (tI W F (bd (wipeG Γ (own.map (·.2))) x) (C b ++ [d]) (f b x) (fun b4 => (compM (ys b x b4) () fun y _ => (h b x b4 y).bind fun z => some (some z, ())).bind fun r => some r.1) Ex2 (ys b x) (fun _ => C b ++ [d])))
    (he : ∀ (d : Cell), ∀ (s : Shared) (H : Hp) (Ca : Addr) (cl : List (Str × Addr)) (fp : List Addr) (b : β) (x : α) (b4 : β4) (y : α2), PE (X.blk s H scope (compEnvC scope cl Ca X.env) fp) elt (tE W F (bd2 (wipeG (bd (wipeG Γ (own.map (·.2))) x) vs1) y) (C b ++ [d]) (h b x b4 y) (fun b5 => some (e b x b4 y b5)) (fun b5 => Ee (e b x b4 y b5)) (fun _ => C b ++ [d])))
    (hs : ∀ x, foldedSetIterable iter X.env x = pure x := by intro _; rfl) (hs1 : ∀ env x, foldedSetIterable iter1 env x = pure x := by intro _ _; rfl) (hc : X.calm = true := by rfl) :
    PE X (.ListComp elt [⟨tg, iter, [], 0⟩, ⟨tg1, iter1, [], 0⟩] scope pos) (tO W F Γ Δ T k (fun b => oL Ee b.2) fun b => C b.1) :=
  (pe_lc2 (te := l2E W F Γ own vs1 bd bd2 C h Ee e) (wi1 := l2I W F Γ own bd C f Ex2 ys h) (tt := tTru) (tt1 := tTru) hc nd hi ok hv hg (fun _ _ _ _ _ => pts_tru)
    (fun s H Ca cl fp => ⟨fun pins s' σ H' R I ⟨d, b, x, q⟩ => (hi1 d s H Ca cl fp b x).run pins s' σ H' R I q⟩) hg2 (fun _ _ _ _ _ => pts_tru)
    (fun s H Ca cl fp => ⟨fun pins s' σ H' Q I ⟨d, b, x, b4, y, q⟩ => (he d s H Ca cl fp b x b4 y).run pins s' σ H' Q I q⟩) hs hs1).wk (l2_imp (fun b gg kb => by
      obtain ⟨r, er, kb⟩ := bind_some kb
      obtain ⟨z, kb⟩ := grd_some kb
      exact ⟨r, er, z, kb⟩) ht ht2)
end
end L3
end
section
set_option Elab.async false
set_option linter.all false
set_option maxRecDepth 100000
set_option maxHeartbeats 4000000
namespace L3
open PySem PySem.Spec PyProof.Rows L2
/-! ### one part of a list of groups is put anew -/
theorem at_split {α : Type} {x : α} : ∀ {l : List α} {m : Nat}, l[m]? = some x → ∃ A B, l = A ++ x :: B ∧ ∀ y, l.set m y = A ++ y :: B
  | [], m, h => by simp at h
  | y :: l, 0, h => by
    simp at h
    subst h
    exact ⟨[], l, rfl, fun _ => rfl⟩
  | y :: l, m + 1, h => by
    obtain ⟨A, B, e, s⟩ := at_split (l := l) (m := m) (by simpa using h)
    exact ⟨y :: A, B, by rw [e]; rfl, fun z => by rw [List.set_cons_succ, s z]; rfl⟩
theorem flat_set {gs : List (List Addr)} {m : Nat} {g g' : List Addr} (hg : gs[m]? = some g) (nd : gs.flatten.Nodup) (nd' : g'.Nodup) (ds : ∀ a ∈ g', a ∈ g ∨ a ∉ gs.flatten) : (gs.set m g').flatten.Nodup ∧ ∀ a ∈ (gs.set m g').flatten, (a ∈ gs.flatten ∧ a ∉ g) ∨ a ∈ g' := by
  obtain ⟨A, B, e, s⟩ := at_split hg
  rw [s g']
  subst e
  simp only [List.flatten_append, List.flatten_cons] at nd ds ⊢
  obtain ⟨n1, n2, n3⟩ := List.nodup_append.mp nd
  obtain ⟨n4, n5, n6⟩ := List.nodup_append.mp n2
  have dA : ∀ a ∈ A.flatten, a ∉ g' := fun a ha h => by
    rcases ds a h with h | h
    · exact n3 a ha a (List.mem_append_left _ h) rfl
    · exact h (List.mem_append_left _ ha)
  have dB : ∀ a ∈ B.flatten, a ∉ g' := fun a ha h => by
    rcases ds a h with h | h
    · exact n6 a h a ha rfl
    · exact h (List.mem_append_right _ (List.mem_append_right _ ha))
  refine ⟨List.nodup_append.mpr ⟨n1, List.nodup_append.mpr ⟨nd', n5, fun a ha b hb z => ?_⟩, fun a ha b hb z => ?_⟩, fun a ha => ?_⟩
  · subst z; exact dB a hb ha
  · subst z
    rcases List.mem_append.mp hb with h | h
    · exact dA a ha h
    · exact n3 a ha a (List.mem_append_right _ h) rfl
  · rcases List.mem_append.mp ha with h | h
    · exact .inl ⟨List.mem_append_left _ h, fun z => n3 a h a (List.mem_append_left _ z) rfl⟩
    · rcases List.mem_append.mp h with h | h
      · exact .inr h
      · exact .inl ⟨List.mem_append_right _ (List.mem_append_right _ h), fun z => n6 a z a h rfl⟩
theorem Own3.turnG {α : Type} {D : α → Od} {H H' : Hp} {y : α} {v : V} {g g' : List Addr} (f : Fzs H H') (new : (D y).pr g' H' v) : ∀ {xs : List α} {vs : List V} {gs : List (List Addr)} {m : Nat}, Own3 D H xs vs gs → gs.flatten.Nodup → (∀ a ∈ gs.flatten, a ∉ g → ∀ o, H a = some o → H' a = some o) → m < xs.length → gs[m]? = some g → Own3 D H' (xs.set m y) (vs.set m v) (gs.set m g')
  | _, _, _, _, .nil, _, _, e, _ => by simp at e
  | _, _, _, 0, .cons r t, nd, kp, e1, e2 => by
    simp at e2
    subst e2
    rw [List.flatten_cons] at nd kp
    exact .cons new (t.frame f fun a ha o e => kp a (List.mem_append_right _ ha) (fun hg => (List.nodup_append.mp nd).2.2 a hg a ha rfl) o e)
  | _, _, g0 :: gs, m + 1, .cons r t, nd, kp, e1, e2 => by
    rw [List.flatten_cons] at nd kp
    have e2' : gs[m]? = some g := by simpa using e2
    refine .cons ((D _).frame r (fun a ha o e => kp a (List.mem_append_left _ ha) (fun hg => ?_) o e) f) (Own3.turnG f new t (List.nodup_append.mp nd).2.1 (fun a ha => kp a (List.mem_append_right _ ha)) (by simpa using e1) e2')
    exact (List.nodup_append.mp nd).2.2 a ha a (List.mem_flatten.mpr ⟨g, List.mem_of_getElem? e2', hg⟩) rfl
/-! ### dicts of things of one's own -/
section
variable {κ α : Type} [DecidableEq κ]
theorem dput_set {xs : List (κ × α)} {k : κ} {x y : α} {m : Nat} (nd : (xs.map Prod.fst).Nodup) (h : xs[m]? = some (k, x)) : dput xs k y = xs.set m (k, y) := by
  have hany : (xs.any fun p => decide (p.1 = k)) = true := List.any_eq_true.mpr ⟨(k, x), List.mem_of_getElem? h, by simp⟩
  unfold dput
  rw [if_pos hany]
  clear hany
  induction xs generalizing m with
  | nil => simp at h
  | cons p xs ih =>
    rw [List.map_cons, List.nodup_cons] at nd
    cases m with
    | zero =>
      simp at h
      subst h
      rw [List.map_cons, if_pos rfl, List.set_cons_zero]
      congr 1
      refine (List.map_congr_left fun q hq => ?_).trans (List.map_id _)
      rw [if_neg]
      · rfl
      · intro e
        exact nd.1 (List.mem_map.mpr ⟨q, hq, e⟩)
    | succ m =>
      have h' : xs[m]? = some (k, x) := by simpa using h
      rw [List.map_cons, List.set_cons_succ, ih nd.2 h', if_neg]
      intro e
      exact nd.1 (List.mem_map.mpr ⟨_, List.mem_of_getElem? h', e.symm⟩)
theorem dget_at {xs : List (κ × α)} {k : κ} {x : α} (h : dget xs k = some x) : ∃ m : Nat, xs[m]? = some (k, x) := by
  unfold dget at h
  cases e : xs.find? fun p => decide (p.1 = k) with
  | none => rw [e] at h; cases h
  | some p =>
    rw [e] at h
    have h : p.2 = x := Option.some.inj h
    have e1 : p.1 = k := by simpa using List.find?_some e
    obtain ⟨m, hm⟩ := List.getElem?_of_mem (List.mem_of_find?_eq_some e)
    exact ⟨m, by rw [hm, ← h, ← e1]⟩
end
section
variable {κ α : Type} [DecidableEq κ] [Ky κ]
theorem prM_of {E : α → Pd} {H : Hp} : ∀ {xs : List (κ × α)} {us : List (Key × V)}, us.map (·.1) = xs.map (fun x => Ky.ky x.1) → Paired (fun x u => (E x.2).pr H u) xs (us.map (·.2)) → Paired (PrM E H) xs us
  | [], [], _, _ => .nil
  | [], _ :: _, e, _ => by cases e
  | _ :: _, [], e, _ => by cases e
  | x :: xs, u :: us, e, .cons r t => by
    rw [List.map_cons, List.map_cons] at e
    injection e with e1 e2
    exact .cons ⟨e1, r⟩ (prM_of e2 t)
def oMO (D : α → Od) (xs : List (κ × α)) : Od where
  pr G H v := ∃ p kvs gs, G = p :: gs.flatten ∧ v = .ref p ∧ H p = some (.dK kvs) ∧ xs.length ≤ sizeLine ∧ (xs.map Prod.fst).Nodup ∧ kvs.map (·.1) = xs.map (fun x => Ky.ky x.1) ∧ Own3 (fun x : κ × α => D x.2) H xs (kvs.map (·.2)) gs
  pd := pM (fun x => (D x).pd) xs
  frame := fun {G H H' v} h k f => by
    obtain ⟨p, vs, gs, eg, ev, h, z, nd, ks, q⟩ := h
    exact ⟨p, vs, gs, eg, ev, k p (by rw [eg]; exact List.mem_cons_self) _ h, z, nd, ks, q.frame f fun a ha => k a (by rw [eg]; exact List.mem_cons_of_mem _ ha)⟩
  cells := fun ⟨p, vs, gs, eg, ev, h, z, nd, ks, q⟩ a ha => by
    rw [eg] at ha
    rcases List.mem_cons.mp ha with e | ha
    · rw [e]; exact ⟨_, h, trivial⟩
    · exact q.cells a ha
  lockd := fun {G H H1 v} ⟨p, vs, gs, eg, ev, h, z, nd, ks, q⟩ h1 h2 => by
    obtain ⟨o, ho⟩ := h2 p (by rw [eg]; exact List.mem_cons_self) _ h
    have hm : ∀ a ∈ G, ∃ o, H a = some o ∧ Mut (some o) := fun a ha => by
      rw [eg] at ha
      rcases List.mem_cons.mp ha with e | ha
      · rw [e]; exact ⟨_, h, trivial⟩
      · exact q.cells a ha
    exact ⟨p, o, vs, ev, ho, z, prM_of ks (q.lockd (D := fun x : κ × α => D x.2) h1 h2 hm fun a ha => by rw [eg]; exact List.mem_cons_of_mem _ ha)⟩
theorem valV_at {us : List (Key × V)} {k : Key} {v : V} {m : Nat} (nd : (us.map (·.1)).Nodup) (h : us[m]? = some (k, v)) : valV us k = some v := by
  induction us generalizing m with
  | nil => simp at h
  | cons p us ih =>
    rw [List.map_cons, List.nodup_cons] at nd
    cases m with
    | zero =>
      simp at h
      subst h
      exact valV_pos rfl
    | succ m =>
      have h' : us[m]? = some (k, v) := by simpa using h
      rw [valV_neg (fun e => nd.1 (List.mem_map.mpr ⟨_, List.mem_of_getElem? h', e.symm⟩))]
      exact ih nd.2 h'
end
theorem nodup_mapI {β δ : Type} {f : β → δ} (hf : ∀ a b, f a = f b → a = b) {l : List β} (nd : l.Nodup) : (l.map f).Nodup := List.Pairwise.map f (fun a b h e => h (hf a b e)) nd
theorem set_self' {β : Type} {x : β} : ∀ {l : List β} {m : Nat}, l[m]? = some x → l.set m x = l
  | [], _, h => by simp at h
  | y :: l, 0, h => by simp at h; subst h; rfl
  | y :: l, m + 1, h => by rw [List.set_cons_succ, set_self' (by simpa using h)]
/-! ### paths into a thing of one's own -/
/-- u is the part x of the thing d at v; back says what d becomes when the part is put anew -/
def Foc {α : Type} (d : Od) (v : V) (D : α → Od) (x : α) (back : α → Od) (u : V) (H : Hp) : Prop :=
  ∀ H1 G, Gr H H1 → d.pr G H1 v → G.Nodup → ∃ G2, (D x).pr G2 H1 u ∧ (∀ a ∈ G2, a ∈ G) ∧ G2.Nodup ∧
    ∀ H' y G2', (∀ a ∈ G, a ∉ G2 → ∀ o, H1 a = some o → H' a = some o) → Fzs H1 H' → G2'.Nodup → (∀ a ∈ G2', a ∈ G2 ∨ a ∉ G) → (D y).pr G2' H' u →
      ∃ G', (back y).pr G' H' v ∧ G'.Nodup ∧ ∀ a ∈ G', (a ∈ G ∧ a ∉ G2) ∨ a ∈ G2'
theorem Foc.gr {α : Type} {d : Od} {v : V} {D : α → Od} {x : α} {back : α → Od} {u : V} {H H2 : Hp} (f : Foc d v D x back u H) (g : Gr H H2) : Foc d v D x back u H2 := fun H1 G g1 => f H1 G (g.trans g1)
theorem Foc.id {α : Type} {v : V} {D : α → Od} {x : α} {H : Hp} : Foc (D x) v D x D v H := fun H1 G _ h nd => ⟨G, h, fun _ h => h, nd, fun H' y G2' _ _ nd' _ h' => ⟨G2', h', nd', fun a ha => .inr ha⟩⟩
section
variable {X : Cx} {W : Bool} {F : Fm} {Γ : Gm} {Δ : Δs} {γ : Type}
def tFo {α β : Type} (F : Fm) (Γ : Gm) (Δ : Δs) (T : Option γ) (k : β → Option γ) (v : V) (d : Od) (D : α → Od) (x : β → α) (back : β → α → Od) : TE := fun σ H Q =>
  Ok F Γ Δ σ H ∧ ∃ g, T = some g ∧ ∀ b u H', k b = some g → Gr H H' → Ok F Γ Δ σ H' → Foc d v D (x b) (back b) u H' → Q u H'
theorem f_var {α : Type} {e : Expr} {v : V} {D : α → Od} {x : α} {T : Option γ} {k : Unit → Option γ} (h : PE X e (tE false F Γ Δ T k (fun _ => pV v) fun _ => Δ)) : PE X e (tFo F Γ Δ T k v (D x) D (fun _ => x) fun _ => D) :=
  h.wk fun σ H Q ⟨ok, g, e, q⟩ => ⟨ok, g, e, fun b u H' kb st ok' hu => by
    have hu : u = v := hu
    subst hu
    exact q b u H' kb st.gr ok' Foc.id⟩
/-- the part at a key -/
theorem Foc.key {κ α : Type} [DecidableEq κ] [Ky κ] {d : Od} {v : V} {D : α → Od} {xs : List (κ × α)} {back : List (κ × α) → Od} {u : V} {H : Hp} {n : κ} {x : α} {p : Addr} {kvs : List (Key × V)} {w : V} (f : Foc d v (oMO D) xs back u H) (hu : u = .ref p) (hp : H p = some (.dK kvs)) (hx : dget xs n = some x) (hw : valV kvs (Ky.ky n) = some w) : Foc d v D x (fun y => back (dput xs n y)) w H := fun H1 G g1 hd nd => by
  obtain ⟨G2, ⟨p', kvs', gs, eg, eu, hp', z, ndk, ks, o3⟩, sb, nd2, tr⟩ := f H1 G g1 hd nd
  have eg : G2 = p' :: gs.flatten := eg
  have eu : u = .ref p' := eu
  rw [hu] at eu
  cases eu
  rw [g1 _ _ hp] at hp'
  cases hp'
  subst eg
  obtain ⟨m, hm⟩ := dget_at hx
  obtain ⟨w', g, hvw, hg, pw⟩ := o3.at hm
  have pw : (D x).pr g H1 w' := pw
  have ndkv : (kvs.map (·.1)).Nodup := by
    rw [ks]
    have e : xs.map (fun x => Ky.ky x.1) = (xs.map Prod.fst).map Ky.ky := by rw [List.map_map]; rfl
    rw [e]
    exact nodup_mapI (fun a b e => Ky.inj e) ndk
  have hkv : kvs[m]? = some (Ky.ky n, w') := by
    have h1 : (kvs.map (·.1))[m]? = some (Ky.ky n) := by rw [ks, List.getElem?_map, hm]; rfl
    rw [List.getElem?_map] at h1 hvw
    cases hk : kvs[m]? with
    | none => rw [hk] at h1; cases h1
    | some q =>
      rw [hk] at h1 hvw
      have h1 : q.1 = Ky.ky n := Option.some.inj h1
      have h2 : q.2 = w' := Option.some.inj hvw
      rw [← h1, ← h2]
  have ew : w' = w := by
    have := valV_at ndkv hkv
    rw [hw] at this
    exact (Option.some.inj this).symm
  subst ew
  obtain ⟨pG, ndG⟩ := List.nodup_cons.mp nd2
  have sg : ∀ a ∈ g, a ∈ gs.flatten := fun a ha => List.mem_flatten.mpr ⟨g, List.mem_of_getElem? hg, ha⟩
  have ndg : g.Nodup := by
    obtain ⟨A, B, e, _⟩ := at_split hg
    rw [e, List.flatten_append, List.flatten_cons] at ndG
    exact (List.nodup_append.mp (List.nodup_append.mp ndG).2.1).1
  refine ⟨g, pw, fun a ha => sb a (List.mem_cons_of_mem _ (sg a ha)), ndg, fun H' y G3 kp fz nd3 ds h3 => ?_⟩
  have hml : m < xs.length := (List.getElem?_eq_some_iff.mp hm).1
  have nin : ∀ a ∈ G3, a ∈ g ∨ a ∉ gs.flatten := fun a ha => (ds a ha).imp (fun h => h) fun h z => h (sb a (List.mem_cons_of_mem _ z))
  obtain ⟨fs1, fs2⟩ := flat_set hg ndG nd3 nin
  have pg : p ∉ g := fun z => pG (sg p z)
  have pn : p ∉ G3 := fun z => (ds p z).elim pg fun h => h (sb p List.mem_cons_self)
  have vset : (kvs.map (·.2)).set m w' = kvs.map (·.2) := set_self' hvw
  obtain ⟨G', hb, nb, mb⟩ := tr H' (dput xs n y) (p :: (gs.set m G3).flatten) (fun a ha na o e => kp a ha (fun z => na (List.mem_cons_of_mem _ (sg a z))) o e) fz (List.nodup_cons.mpr ⟨fun z => (fs2 p z).elim (fun h => pG h.1) pn, fs1⟩) (fun a ha => by
      rcases List.mem_cons.mp ha with e | ha
      · exact .inl (by rw [e]; exact List.mem_cons_self)
      · rcases fs2 a ha with h | h
        · exact .inl (List.mem_cons_of_mem _ h.1)
        · exact (ds a h).imp (fun z => List.mem_cons_of_mem _ (sg a z)) fun h => h) ⟨p, kvs, gs.set m G3, rfl, hu, kp p (sb p List.mem_cons_self) pg _ (g1 _ _ hp), by rw [dput_set ndk hm, List.length_set]; exact z, by
        rw [dput_set ndk hm, List.map_set, set_self' (by rw [List.getElem?_map, hm]; rfl)]; exact ndk, by
        rw [dput_set ndk hm, List.map_set, set_self' (by rw [List.getElem?_map, hm]; rfl)]; exact ks, by
        rw [dput_set ndk hm, ← vset]
        exact o3.turnG (y := (n, y)) fz h3 ndG (fun a ha na o e => kp a (sb a (List.mem_cons_of_mem _ ha)) na o e) hml hg⟩
  refine ⟨G', hb, nb, fun a ha => ?_⟩
  rcases mb a ha with ⟨h1, h2⟩ | h
  · exact .inl ⟨h1, fun z => h2 (List.mem_cons_of_mem _ (sg a z))⟩
  · rcases List.mem_cons.mp h with e | h
    · exact .inl ⟨by rw [e]; exact sb p List.mem_cons_self, by rw [e]; exact pg⟩
    · rcases fs2 a h with ⟨h1, h2⟩ | h
      · exact .inl ⟨sb a (List.mem_cons_of_mem _ h1), h2⟩
      · exact .inr h
/-- the part at an index -/
theorem Foc.ix {α : Type} {d : Od} {v : V} {D : α → Od} {xs : List α} {back : List α → Od} {u : V} {H : Hp} {m : Nat} {x : α} {p : Addr} {vs : List V} {w : V} (f : Foc d v (oLO D) xs back u H) (hu : u = .ref p) (hp : H p = some (.lst vs)) (hm : xs[m]? = some x) (hw : vs[m]? = some w) : Foc d v D x (fun y => back (xs.set m y)) w H := fun H1 G g1 hd nd => by
  obtain ⟨G2, ⟨p', vs', gs, eg, eu, hp', z, o3⟩, sb, nd2, tr⟩ := f H1 G g1 hd nd
  have eg : G2 = p' :: gs.flatten := eg
  have eu : u = .ref p' := eu
  rw [hu] at eu
  cases eu
  rw [g1 _ _ hp] at hp'
  cases hp'
  subst eg
  obtain ⟨w', g, hvw, hg, pw⟩ := o3.at hm
  rw [hw] at hvw
  cases hvw
  obtain ⟨pG, ndG⟩ := List.nodup_cons.mp nd2
  have sg : ∀ a ∈ g, a ∈ gs.flatten := fun a ha => List.mem_flatten.mpr ⟨g, List.mem_of_getElem? hg, ha⟩
  have ndg : g.Nodup := by
    obtain ⟨A, B, e, _⟩ := at_split hg
    rw [e, List.flatten_append, List.flatten_cons] at ndG
    exact (List.nodup_append.mp (List.nodup_append.mp ndG).2.1).1
  refine ⟨g, pw, fun a ha => sb a (List.mem_cons_of_mem _ (sg a ha)), ndg, fun H' y G3 kp fz nd3 ds h3 => ?_⟩
  have hml : m < xs.length := (List.getElem?_eq_some_iff.mp hm).1
  have nin : ∀ a ∈ G3, a ∈ g ∨ a ∉ gs.flatten := fun a ha => (ds a ha).imp (fun h => h) fun h z => h (sb a (List.mem_cons_of_mem _ z))
  obtain ⟨fs1, fs2⟩ := flat_set hg ndG nd3 nin
  have pg : p ∉ g := fun z => pG (sg p z)
  have pn : p ∉ G3 := fun z => (ds p z).elim pg fun h => h (sb p List.mem_cons_self)
  have vset : vs.set m w = vs := set_self' hw
  obtain ⟨G', hb, nb, mb⟩ := tr H' (xs.set m y) (p :: (gs.set m G3).flatten) (fun a ha na o e => kp a ha (fun z => na (List.mem_cons_of_mem _ (sg a z))) o e) fz (List.nodup_cons.mpr ⟨fun z => (fs2 p z).elim (fun h => pG h.1) pn, fs1⟩) (fun a ha => by
      rcases List.mem_cons.mp ha with e | ha
      · exact .inl (by rw [e]; exact List.mem_cons_self)
      · rcases fs2 a ha with h | h
        · exact .inl (List.mem_cons_of_mem _ h.1)
        · exact (ds a h).imp (fun z => List.mem_cons_of_mem _ (sg a z)) fun h => h) ⟨p, vs, gs.set m G3, rfl, hu, kp p (sb p List.mem_cons_self) pg _ (g1 _ _ hp), by rw [List.length_set]; exact z, by
        rw [← vset]
        exact o3.turnG (y := y) fz h3 ndG (fun a ha na o e => kp a (sb a (List.mem_cons_of_mem _ ha)) na o e) hml hg⟩
  refine ⟨G', hb, nb, fun a ha => ?_⟩
  rcases mb a ha with ⟨h1, h2⟩ | h
  · exact .inl ⟨h1, fun z => h2 (List.mem_cons_of_mem _ (sg a z))⟩
  · rcases List.mem_cons.mp h with e | h
    · exact .inl ⟨by rw [e]; exact sb p List.mem_cons_self, by rw [e]; exact pg⟩
    · rcases fs2 a h with ⟨h1, h2⟩ | h
      · exact .inl ⟨sb a (List.mem_cons_of_mem _ h1), h2⟩
      · exact .inr h
/-- what stands at a path now -/
theorem Ok.foc {σ : SS} {H : Hp} {α : Type} {j : Nat} {d : Od} {v : V} {prm : Option Nat} {D : α → Od} {x : α} {back : α → Od} {u : V} (ok : Ok F Γ Δ σ H) (hj : Δ[j]? = some ⟨v, d, prm⟩) (f : Foc d v D x back u H) : ∃ G2, (D x).pr G2 H u := by
  obtain ⟨G, h, nd, _⟩ := ok.cell hj
  obtain ⟨G2, h2, _⟩ := f H G (Gr.refl H) h nd
  exact ⟨G2, h2⟩
/-- a path's part is changed in place -/
theorem Ok.focT {σ : SS} {H : Hp} {α : Type} {j : Nat} {d : Od} {v : V} {prm : Option Nat} {D : α → Od} {x : α} {back : α → Od} {u : V} (ok : Ok F Γ Δ σ H) (hj : Δ[j]? = some ⟨v, d, prm⟩) (f : Foc d v D x back u H) : ∃ G2, (D x).pr G2 H u ∧ G2.Nodup ∧
    ∀ H' y G2', (∀ a o, a ∉ G2 → H a = some o → H' a = some o) → (∀ a ∈ G2, ∃ o, H' a = some o) → Fzs H H' → G2'.Nodup → (∀ a ∈ G2', a ∈ G2 ∨ H a = none) → (D y).pr G2' H' u → Ok F Γ (Δ.set j ⟨v, back y, prm⟩) σ H' ∧ St true H H' := by
  obtain ⟨G, h, nd, tr⟩ := ok.cellG hj
  obtain ⟨G2, h2, sb, nd2, tb⟩ := f H G (Gr.refl H) h nd
  refine ⟨G2, h2, nd2, fun H' y G2' kp dm fz nd' ds h' => ?_⟩
  obtain ⟨G', hb, nb, mb⟩ := tb H' y G2' (fun a _ na o e => kp a o na e) fz nd' (fun a ha => (ds a ha).imp (fun h => h) fun e z => by
    obtain ⟨o, eo, _⟩ := d.cells h a z
    rw [e] at eo
    cases eo) h'
  exact tr H' (back y) G' (fun a o na e => kp a o (fun z => na (sb a z)) e) (fun a ha => by
    by_cases h3 : a ∈ G2
    · exact dm a h3
    · obtain ⟨o, eo, _⟩ := d.cells h a ha
      exact ⟨o, kp a o h3 eo⟩) nb (fun a ha => by
    rcases mb a ha with h1 | h1
    · exact .inl h1.1
    · exact (ds a h1).imp (fun z => sb a z) fun z => z) hb
/-- .. and takes up a new thing -/
theorem OkN.focT {H0 : Hp} {σ : SS} {H : Hp} {α : Type} {j : Nat} {d dn : Od} {v w : V} {prm : Option Nat} {D : α → Od} {x : α} {back : α → Od} {u : V} (ok : OkN W F Γ H0 w dn Δ σ H) (hj : Δ[j]? = some ⟨v, d, prm⟩) (f : Foc d v D x back u H) : ∃ G2 Gn, (D x).pr G2 H u ∧ dn.pr Gn H w ∧ (G2 ++ Gn).Nodup ∧
    ∀ H' y G2', (∀ a o, a ∉ G2 → H a = some o → H' a = some o) → (∀ a ∈ G2, ∃ o, H' a = some o) → Fzs H H' → G2'.Nodup → (∀ a ∈ G2', a ∈ G2 ∨ a ∈ Gn) → (D y).pr G2' H' u → Ok F Γ (Δ.set j ⟨v, back y, prm⟩) σ H' ∧ Fzs H H' ∧ ∀ a o, H a = some o → ∃ u, H' a = some u := by
  obtain ⟨G, Gn, h, hn, nd, tr⟩ := ok.absorb hj
  obtain ⟨nd1, nd2, nd3⟩ := List.nodup_append.mp nd
  obtain ⟨G2, h2, sb, ndg, tb⟩ := f H G (Gr.refl H) h nd1
  refine ⟨G2, Gn, h2, hn, List.nodup_append.mpr ⟨ndg, nd2, fun a ha b hb e => nd3 a (sb a ha) b hb e⟩, fun H' y G2' kp dm fz nd' ds h' => ?_⟩
  obtain ⟨G', hb, nb, mb⟩ := tb H' y G2' (fun a _ na o e => kp a o na e) fz nd' (fun a ha => (ds a ha).imp (fun h => h) fun hn z => nd3 a z a hn rfl) h'
  exact tr H' (back y) G' (fun a o na _ e => kp a o (fun z => na (sb a z)) e) (fun a ha => by
    by_cases h3 : a ∈ G2
    · exact dm a h3
    · have : ∃ o, H a = some o := by
        rcases ha with ha | ha
        · obtain ⟨o, eo, _⟩ := d.cells h a ha; exact ⟨o, eo⟩
        · obtain ⟨o, eo, _⟩ := dn.cells hn a ha; exact ⟨o, eo⟩
      obtain ⟨o, eo⟩ := this
      exact ⟨o, kp a o h3 eo⟩) nb (fun a ha => .inl (by
    rcases mb a ha with h1 | h1
    · exact .inl h1.1
    · exact (ds a h1).imp (fun z => sb a z) fun z => z)) hb
end
end L3
end
section
set_option Elab.async false
set_option linter.all false
set_option maxRecDepth 100000
set_option maxHeartbeats 4000000
namespace L3
open PySem PySem.Spec PyProof.Rows L2
theorem own_val {κ α : Type} [DecidableEq κ] [Ky κ] (n : κ) : ∀ {xs : List (κ × α)} {kvs : List (Key × V)}, kvs.map (·.1) = xs.map (fun x => Ky.ky x.1) → (valV kvs (Ky.ky n)).isSome = dhas xs n
  | [], [], _ => rfl
  | [], _ :: _, e => by cases e
  | _ :: _, [], e => by cases e
  | x :: xs, u :: us, e => by
    rw [List.map_cons, List.map_cons] at e
    injection e with e1 e2
    by_cases h : x.1 = n
    · rw [valV_pos (by rw [e1, h]), dhas_get, dget_pos h]; rfl
    · rw [valV_neg (fun z => h (Ky.inj (by rw [← e1, z]))), own_val n e2, dhas_get, dhas_get, dget_neg h]
theorem own_valG {κ α : Type} [DecidableEq κ] [Ky κ] {n : κ} {xs : List (κ × α)} {kvs : List (Key × V)} {x : α} (ks : kvs.map (·.1) = xs.map (fun x => Ky.ky x.1)) (h : dget xs n = some x) : ∃ w, valV kvs (Ky.ky n) = some w := by
  have := own_val n ks
  rw [dhas_get, h] at this
  exact Option.isSome_iff_exists.mp this
section
variable {X : Cx} {W : Bool} {F : Fm} {Γ : Gm} {Δ : Δs} {γ : Type}
section
variable {o i e : Expr} {pos : Pos} {β1 β2 α : Type} {T : Option γ} {k1 : β1 → Option γ} {v : V} {d : Od} {D : α → Od} {prm : Option Nat}
/-- path[k] -/
theorem f_key {κ : Type} [DecidableEq κ] [Ky κ] {k : (β1 × β2) × α → Option γ} {xs : β1 → List (κ × α)} {back : β1 → List (κ × α) → Od} {n : β1 → β2 → κ} (j : Nat) (hu : X.A.units + 64 < cLine) (ho : PE X o (tFo F Γ Δ T k1 v d (oMO D) xs back))
    (hi : ∀ b1, PE X i (tE false F Γ Δ (k1 b1) (fun b2 => (dget (xs b1) (n b1 b2)).bind fun y => k ((b1, b2), y)) (fun b2 => Ky.kp (n b1 b2)) fun _ => Δ)) (hj : Δ[j]? = some ⟨v, d, prm⟩ := by rfl) (hs : NoSl i := by exact fun _ _ => rfl) :
    PE X (.Subscript o i pos) (tFo F Γ Δ T k v d D (fun b => b.2) fun b y => back b.1.1 (dput (xs b.1.1) (n b.1.1 b.1.2) y)) :=
  (pe_dget (by omega) ho (pe_ex hi) hs).wk fun σ H Q ⟨ok, g, e, q⟩ => ⟨ok, g, e, fun b1 u H1 kb1 g1 ok1 fo => ⟨b1, ok1, g, kb1, fun b2 w H2 kb2 s2 ok2 hw => by
    obtain ⟨x, ex, kx⟩ := bind_some kb2
    have fo2 := fo.gr s2.gr
    obtain ⟨G2, p, kvs, gs, _, eu, hp, z, nd, ks, o3⟩ := ok2.foc hj fo2
    obtain ⟨w', ew⟩ := own_valG ks ex
    exact ⟨p, w', eu, .inl ⟨kvs, Ky.ky (n b1 b2), .inl hp, Ky.is hw, ew.symm⟩, q ((b1, b2), x) w' H2 kx (g1.trans s2.gr) ok2 (fo2.key eu hp ex ew)⟩⟩⟩
/-- path[i] -/
theorem f_ix {k : (β1 × β2) × (Nat × α) → Option γ} {xs : β1 → List α} {back : β1 → List α → Od} {n : β1 → β2 → Int} (j : Nat) (ho : PE X o (tFo F Γ Δ T k1 v d (oLO D) xs back))
    (hi : ∀ b1, PE X i (tE false F Γ Δ (k1 b1) (fun b2 => (ixN (xs b1).length (n b1 b2)).bind fun m => (xs b1)[m]?.bind fun y => k ((b1, b2), (m, y))) (fun b2 => pInt (n b1 b2)) fun _ => Δ)) (hj : Δ[j]? = some ⟨v, d, prm⟩ := by rfl) (hpi : PlainIx i := by exact fun _ _ => rfl) :
    PE X (.Subscript o i pos) (tFo F Γ Δ T k v d D (fun b => b.2.2) fun b y => back b.1.1 ((xs b.1.1).set b.2.1 y)) :=
  (pe_ix ix_list ho (pe_ex hi) hpi).wk fun σ H Q ⟨ok, g, e, q⟩ => ⟨ok, g, e, fun b1 u H1 kb1 g1 ok1 fo => ⟨b1, ok1, g, kb1, fun b2 w H2 kb2 s2 ok2 hw => by
    obtain ⟨m, em, kb2⟩ := bind_some kb2
    obtain ⟨x, ex, kx⟩ := bind_some kb2
    have hw : w = .int (n b1 b2) := hw
    subst hw
    have fo2 := fo.gr s2.gr
    obtain ⟨G2, p, vs, gs, _, eu, hp, z, o3⟩ := ok2.foc hj fo2
    obtain ⟨w', g', hvw, _, _⟩ := o3.at ex
    have hat : atI vs (n b1 b2) = some w' := by
      unfold atI
      rw [← o3.len, em]
      exact hvw
    exact ⟨p, vs, n b1 b2, w', eu, rfl, .inl (.inl hp), hat, q ((b1, b2), (m, x)) w' H2 kx (g1.trans s2.gr) ok2 (fo2.ix eu hp ex hvw)⟩⟩⟩
end
section
variable {o e : Expr} {apos cpos : Pos} {β1 β2 α : Type} {T : Option γ} {k1 : β1 → Option γ} {k : β1 × β2 → Option γ} {v : V} {d : Od} {prm : Option Nat} {xs : β1 → List α} {back : β1 → List α → Od} {y : β1 → β2 → α}
/-- path.append(e) -/
theorem x_appF {Ee : α → Pd} (j : Nat) (ho : PE X o (tFo F Γ Δ T k1 v d (oL Ee) xs back)) (he : ∀ b1, PE X e (tE false F Γ Δ (k1 b1) (fun b2 => grd ((xs b1).length < sizeLine) (k (b1, b2))) (fun b2 => Ee (y b1 b2)) fun _ => Δ)) (hj : Δ[j]? = some ⟨v, d, prm⟩ := by rfl)
    (hbase : attributeBase o "append" X.env (eval o X.env) = eval o X.env := by rfl) (hline : (apos.endLine == cpos.line) = true := by rfl) (hs : starEach [e] X.env = (false, eval e X.env) :: starEach [] X.env := by rfl)
    (hfew : ((backTo cpos (starEach [e] X.env)).all (fun x => !x.1) && (backToKw cpos (keywordEach [] X.env)).all (fun x => x.1.isSome) && decide ([e].length + ([] : List Keyword).length + (if ([] : List Keyword).isEmpty then 0 else 1) < 30)) = true := by rfl) :
    PE X (.Call (.Attribute o "append" apos) [e] [] cpos) (tE true F Γ Δ T k (fun _ => pNon) fun b => Δ.set j ⟨v, back b.1 (xs b.1 ++ [y b.1 b.2]), prm⟩) :=
  (pe_bm PySem.F.plainAttrs_list PySem.F.slot_list_append PySem.F.type_list_append mt_append ho (pa_cons (pe_ex he) pa_nil hs) hbase hfew hline hs).wk fun σ H Q ⟨ok, g, e, q⟩ => ⟨ok, g, e, fun b1 u H1 kb1 g1 ok1 fo => by
    obtain ⟨_, p0, vs0, _, ev0, hp0, _, _⟩ := ok1.foc hj fo
    have ev0 : u = .ref p0 := ev0
    refine ⟨by rw [ev0]; exact .inl ⟨rfl, vs0, .inl (.inl hp0)⟩, b1, ok1, g, kb1, fun b2 w H2 kb2 s2 ok2 hw => ?_⟩
    obtain ⟨c, kb⟩ := grd_some kb2
    obtain ⟨G2, ⟨p, vs, eg, ev, hp, z, pq⟩, nd, tr⟩ := ok2.focT hj (fo.gr s2.gr)
    have eg : G2 = [p] := eg
    have fzm : Fzs H2 (upd H2 p (.lst (vs ++ [w]))) := Fzs.mut hp fun z => z
    obtain ⟨ok3, s3⟩ := tr (upd H2 p (.lst (vs ++ [w]))) (xs b1 ++ [y b1 b2]) G2 (fun a o na e => by rw [upd_ne fun q => na (by rw [eg, q]; exact List.mem_singleton.mpr rfl)]; exact e) (fun a ha => by
      rw [eg] at ha
      rw [List.mem_singleton.mp ha]
      exact ⟨_, upd_same⟩) fzm nd (fun a ha => .inl ha) ⟨p, vs ++ [w], eg, ev, upd_same, by rw [List.length_append, List.length_singleton]; omega, paired_app (paired_mono (fun x _ h => (Ee x).mono fzm h) pq) (.cons ((Ee _).mono fzm hw) .nil)⟩
    exact ⟨p, vs, w, ev, rfl, hp, by rw [← paired_len pq]; exact c, q (b1, b2) .non _ kb ((g1.trans s2.gr).st.trans s3) ok3 rfl⟩⟩
/-- path.append(e), e a new thing -/
theorem x_appFO {D : α → Od} (j : Nat) (ho : PE X o (tFo F Γ Δ T k1 v d (oLO D) xs back)) (he : ∀ b1, PE X e (tO false F Γ Δ (k1 b1) (fun b2 => grd ((xs b1).length < sizeLine) (k (b1, b2))) (fun b2 => D (y b1 b2)) fun _ => Δ)) (hj : Δ[j]? = some ⟨v, d, prm⟩ := by rfl)
    (hbase : attributeBase o "append" X.env (eval o X.env) = eval o X.env := by rfl) (hline : (apos.endLine == cpos.line) = true := by rfl) (hs : starEach [e] X.env = (false, eval e X.env) :: starEach [] X.env := by rfl)
    (hfew : ((backTo cpos (starEach [e] X.env)).all (fun x => !x.1) && (backToKw cpos (keywordEach [] X.env)).all (fun x => x.1.isSome) && decide ([e].length + ([] : List Keyword).length + (if ([] : List Keyword).isEmpty then 0 else 1) < 30)) = true := by rfl) :
    PE X (.Call (.Attribute o "append" apos) [e] [] cpos) (tE true F Γ Δ T k (fun _ => pNon) fun b => Δ.set j ⟨v, back b.1 (xs b.1 ++ [y b.1 b.2]), prm⟩) :=
  (pe_bm PySem.F.plainAttrs_list PySem.F.slot_list_append PySem.F.type_list_append mt_append ho (pa_cons (pe_ex he) pa_nil hs) hbase hfew hline hs).wk fun σ H Q ⟨ok, g, e, q⟩ => ⟨ok, g, e, fun b1 u H1 kb1 g1 ok1 fo => by
    obtain ⟨_, p0, vs0, _, _, ev0, hp0, _, _⟩ := ok1.foc hj fo
    have ev0 : u = .ref p0 := ev0
    refine ⟨by rw [ev0]; exact .inl ⟨rfl, vs0, .inl (.inl hp0)⟩, b1, ok1, g, kb1, fun b2 w H2 kb2 s2 okn => ?_⟩
    obtain ⟨c, kb⟩ := grd_some kb2
    obtain ⟨G2, Gn, ⟨p, vs, gs, eG, ev, hp, z, o3⟩, pn, nd, tr⟩ := okn.focT hj (fo.gr s2.gr)
    have eG : G2 = p :: gs.flatten := eG
    subst eG
    have pG : p ∉ gs.flatten := (List.nodup_cons.mp (List.nodup_append.mp nd).1).1
    have pN : p ∉ Gn := fun h => (List.nodup_append.mp nd).2.2 p List.mem_cons_self p h rfl
    have fzm : Fzs H2 (upd H2 p (.lst (vs ++ [w]))) := Fzs.mut hp fun z => z
    have kp : ∀ a o, a ≠ p → H2 a = some o → upd H2 p (.lst (vs ++ [w])) a = some o := fun a o na e => by rw [upd_ne na]; exact e
    have ndf : (p :: (gs ++ [Gn]).flatten).Nodup := by
      rw [List.flatten_append, List.flatten_cons, List.flatten_nil, List.append_nil]
      exact nd
    obtain ⟨ok3, fz3, dom3⟩ := tr (upd H2 p (.lst (vs ++ [w]))) (xs b1 ++ [y b1 b2]) (p :: (gs ++ [Gn]).flatten) (fun a o na e => kp a o (fun z => na (by rw [z]; exact List.mem_cons_self)) e) (fun a ha => by
        rcases List.mem_cons.mp ha with e | h
        · rw [e]; exact ⟨_, upd_same⟩
        · obtain ⟨o, e, _⟩ := o3.cells a h; exact upd_dom _ _ a o e) fzm ndf (fun a ha => by
        rw [List.flatten_append, List.flatten_cons, List.flatten_nil, List.append_nil] at ha
        rcases List.mem_cons.mp ha with e | ha
        · exact .inl (by rw [e]; exact List.mem_cons_self)
        · rcases List.mem_append.mp ha with h | h
          · exact .inl (List.mem_cons_of_mem _ h)
          · exact .inr h) ⟨p, vs ++ [w], gs ++ [Gn], rfl, ev, upd_same, by rw [List.length_append, List.length_singleton]; omega, (o3.frame fzm fun a ha o e => kp a o (fun z => pG (by rw [← z]; exact ha)) e).app ((D _).frame pn (fun a ha o e => kp a o (fun z => pN (by rw [← z]; exact ha)) e) fzm)⟩
    exact ⟨p, vs, w, ev, rfl, hp, by rw [← o3.len]; exact c, q (b1, b2) .non _ kb ((g1.trans s2.gr).st.trans ⟨fz3, (fun h => nomatch h), dom3⟩) ok3 rfl⟩⟩
end
theorem Ok.okN {H0 : Hp} {σ : SS} {H : Hp} {w : V} {dn : Od} (ok : Ok F Γ (⟨w, dn, none⟩ :: Δ) σ H) : OkN true F Γ H0 w dn Δ σ H := by
  obtain ⟨⟨Δ0, e, k⟩, n⟩ := ok
  match Δ0, e, k with
  | c1 :: R, e, k =>
    obtain ⟨G1, v1, d1, p1⟩ := c1
    have e' : (⟨v1, d1, p1⟩ : Cell) = ⟨w, dn, none⟩ ∧ R.map Cel.fg = Δ := by simpa [Cel.fg] using e
    obtain ⟨e1, e2⟩ := e'
    cases e1
    exact ⟨R, G1, e2, k, (fun h => nomatch h), n⟩
theorem putK_eq (us : List (Key × V)) (k : Key) (v : V) : putK us k v = dput us k v := rfl
theorem dput_new {κ α : Type} [DecidableEq κ] {xs : List (κ × α)} {k : κ} {y : α} (h : dhas xs k = false) : dput xs k y = xs ++ [(k, y)] := by
  unfold dput
  rw [if_neg]
  intro z
  unfold dhas at h
  rw [h] at z
  cases z
theorem dhas_not {κ α : Type} [DecidableEq κ] {xs : List (κ × α)} {k : κ} (h : dhas xs k = false) : k ∉ xs.map Prod.fst := fun z => by
  obtain ⟨p, hp, e⟩ := List.mem_map.mp z
  unfold dhas at h
  have := List.any_eq_false.mp h p hp
  simp [e] at this
/-- a new thing is put at a key -/
theorem own_put {κ α : Type} [DecidableEq κ] [Ky κ] {D : α → Od} {H : Hp} {xs : List (κ × α)} {kvs : List (Key × V)} {gs : List (List Addr)} {n : κ} {y : α} {w : V} {Gn : List Addr} (nd : (xs.map Prod.fst).Nodup) (ks : kvs.map (·.1) = xs.map (fun x => Ky.ky x.1)) (o3 : Own3 (fun x : κ × α => D x.2) H xs (kvs.map (·.2)) gs) (ng : (gs.flatten ++ Gn).Nodup) (pn : (D y).pr Gn H w) :
    ∃ gs', ((dput xs n y).map Prod.fst).Nodup ∧ (putK kvs (Ky.ky n) w).map (·.1) = (dput xs n y).map (fun x => Ky.ky x.1) ∧ Own3 (fun x : κ × α => D x.2) H (dput xs n y) ((putK kvs (Ky.ky n) w).map (·.2)) gs' ∧ gs'.flatten.Nodup ∧ ∀ a ∈ gs'.flatten, a ∈ gs.flatten ∨ a ∈ Gn := by
  obtain ⟨n1, n2, n3⟩ := List.nodup_append.mp ng
  have ndkv : (kvs.map (·.1)).Nodup := by
    rw [ks]
    have e : xs.map (fun x => Ky.ky x.1) = (xs.map Prod.fst).map Ky.ky := by rw [List.map_map]; rfl
    rw [e]
    exact nodup_mapI (fun a b e => Ky.inj e) nd
  rw [putK_eq]
  cases h : dget xs n with
  | some x =>
    obtain ⟨m, hm⟩ := dget_at h
    have h1 : (kvs.map (·.1))[m]? = some (Ky.ky n) := by rw [ks, List.getElem?_map, hm]; rfl
    rw [List.getElem?_map] at h1
    cases hk : kvs[m]? with
    | none => rw [hk] at h1; cases h1
    | some q =>
      rw [hk] at h1
      have h1 : q.1 = Ky.ky n := Option.some.inj h1
      have hk : kvs[m]? = some (Ky.ky n, q.2) := by rw [hk, ← h1]
      have ml : m < gs.length := by rw [← o3.glen]; exact (List.getElem?_eq_some_iff.mp hm).1
      have hg := List.getElem?_eq_getElem ml
      obtain ⟨f1, f2⟩ := flat_set (g' := Gn) hg n1 n2 (fun a ha => .inr fun z => n3 a z a ha rfl)
      refine ⟨gs.set m Gn, ?_, ?_, ?_, f1, fun a ha => (f2 a ha).imp (fun h => h.1) fun h => h⟩
      · rw [dput_set nd hm, List.map_set, set_self' (by rw [List.getElem?_map, hm]; rfl)]; exact nd
      · rw [dput_set nd hm, dput_set ndkv hk, List.map_set, List.map_set, set_self' (by rw [List.getElem?_map, hk]; rfl), set_self' (by rw [List.getElem?_map, hm]; rfl)]; exact ks
      · rw [dput_set nd hm, dput_set ndkv hk, List.map_set]
        exact o3.turnG (y := (n, y)) (Fzs.refl H) pn n1 (fun a ha na o e => e) (List.getElem?_eq_some_iff.mp hm).1 hg
  | none =>
    have hn : dhas xs n = false := by rw [dhas_get, h]; rfl
    have hk : dhas kvs (Ky.ky n) = false := by
      have := own_val n ks
      rw [hn] at this
      rw [dhas_get]
      exact this
    refine ⟨gs ++ [Gn], ?_, ?_, ?_, ?_, fun a ha => ?_⟩
    · rw [dput_new hn, List.map_append]
      exact List.nodup_append.mpr ⟨nd, List.nodup_cons.mpr ⟨List.not_mem_nil, List.nodup_nil⟩, fun a ha b hb e => by
        rw [List.map_cons, List.map_nil] at hb
        rw [List.mem_singleton.mp hb] at e
        exact dhas_not hn (by have e : a = n := e; rw [← e]; exact ha)⟩
    · rw [dput_new hn, dput_new hk, List.map_append, List.map_append, ks]; rfl
    · rw [dput_new hn, dput_new hk, List.map_append]
      exact o3.app (y := (n, y)) pn
    · rw [List.flatten_append, List.flatten_cons, List.flatten_nil, List.append_nil]; exact ng
    · rw [List.flatten_append, List.flatten_cons, List.flatten_nil, List.append_nil] at ha
      exact List.mem_append.mp ha
section
variable {N : Fn γ} {rest : List Stmt} {κ : Type} [DecidableEq κ] [Ky κ]
/-- path[k] = e, e a new thing -/
theorem s_putFO {o i e : Expr} {pos pos' : Pos} {β0 β1 β2 α : Type} {T : Option γ} {k0 : β0 → Option γ} {k1 : β0 → β1 → Option γ} {k : (β0 × β1) × β2 → Option γ} {Δ0 : β0 → Δs} {D : α → Od} {y : β0 → α} {xs : β0 → β1 → List (κ × α)} {back : β0 → β1 → List (κ × α) → Od} {n : β0 → β1 → β2 → κ} {v : V} {d : β0 → Od} {prm : Option Nat} (j : Nat) (hu : X.A.units + 64 < cLine)
    (he : PE X e (tO true F Γ Δ T k0 (fun b => D (y b)) Δ0)) (ho : ∀ b0 w, PE X o (tFo F Γ (⟨w, D (y b0), none⟩ :: Δ0 b0) (k0 b0) (k1 b0) v (d b0) (oMO D) (xs b0) (back b0)))
    (hi : ∀ b0 b1 w, PE X i (tE false F Γ (⟨w, D (y b0), none⟩ :: Δ0 b0) (k1 b0 b1) (fun b2 => grd ((xs b0 b1).length < sizeLine) (k ((b0, b1), b2))) (fun b2 => Ky.kp (n b0 b1 b2)) fun _ => ⟨w, D (y b0), none⟩ :: Δ0 b0))
    (hj : ∀ b0, (Δ0 b0)[j]? = some ⟨v, d b0, prm⟩)
    (hr : ∀ b : (β0 × β1) × β2, PSs X rest (tS F Γ ((Δ0 b.1.1).set j ⟨v, back b.1.1 b.1.2 (dput (xs b.1.1 b.1.2) (n b.1.1 b.1.2 b.2) (y b.1.1)), prm⟩) N (k b)))
    (hs : swapsWith e (some (.Subscript o i pos')) pos.line X.env = pure false := by rfl) :
    PSs X (.Assign [.Subscript o i pos'] e pos :: rest) (tS F Γ Δ N T) :=
  (pss_cons (ps_dput (by omega) (pe_ex fun b0 => pe_ex fun w => ho b0 w) (pe_ex fun b0 => pe_ex fun b1 => pe_ex fun w => hi b0 b1 w) he hs) (pss_ex hr)).wk fun _ σ H ⟨ok, g, e, f⟩ => ⟨ok, g, e, fun b0 u H0 kb0 f0 okn => ⟨b0, u, okn.ok, g, kb0, fun b1 w H1 kb1 f1 ok1 fo => ⟨b0, b1, u, ok1, g, kb1, fun b2 z H2 kb2 f2 ok2 hz => by
    obtain ⟨c, km⟩ := grd_some kb2
    have hz := Ky.is hz
    obtain ⟨G2, Gn, ⟨p, kvs, gs, eG, ev, hp, zz, nd, ks, o3⟩, pn, ndG, tr⟩ := (Ok.okN (H0 := H) ok2).focT (hj b0) (fo.gr f2.gr)
    have eG : G2 = p :: gs.flatten := eG
    subst eG
    obtain ⟨q1, q2⟩ := List.nodup_cons.mp ndG
    obtain ⟨gs', r1, r2, r3, r4, r5⟩ := own_put (n := n b0 b1 b2) nd ks o3 q2 pn
    have pg' : p ∉ gs'.flatten := fun h => q1 (List.mem_append.mpr (r5 p h))
    have fzm : Fzs H2 (upd H2 p (.dK (putK kvs (Ky.ky (n b0 b1 b2)) u))) := Fzs.mut hp fun z => z
    have kp : ∀ a o, a ≠ p → H2 a = some o → upd H2 p (.dK (putK kvs (Ky.ky (n b0 b1 b2)) u)) a = some o := fun a o na e => by rw [upd_ne na]; exact e
    have kl : kvs.length = (xs b0 b1).length := by
      have := congrArg List.length ks
      rw [List.length_map, List.length_map] at this
      exact this
    refine ⟨p, _, ev, .inl ⟨kvs, Ky.ky (n b0 b1 b2), hp, hz, by rw [kl]; exact c, rfl⟩, ((b0, b1), b2), ?_⟩
    obtain ⟨ok3, fz3, _⟩ := tr (upd H2 p (.dK (putK kvs (Ky.ky (n b0 b1 b2)) u))) (dput (xs b0 b1) (n b0 b1 b2) (y b0)) (p :: gs'.flatten) (fun a o na e => kp a o (fun z => na (by rw [z]; exact List.mem_cons_self)) e) (fun a ha => by
        rcases List.mem_cons.mp ha with e | h
        · rw [e]; exact ⟨_, upd_same⟩
        · obtain ⟨o, e, _⟩ := o3.cells a h; exact upd_dom _ _ a o e) fzm (List.nodup_cons.mpr ⟨pg', r4⟩) (fun a ha => by
        rcases List.mem_cons.mp ha with e | ha
        · exact .inl (by rw [e]; exact List.mem_cons_self)
        · exact (r5 a ha).imp (fun h => List.mem_cons_of_mem _ h) fun h => h) ⟨p, _, gs', rfl, ev, upd_same, Nat.le_trans (dput_len _ _ _) c, r1, r2, r3.frame fzm fun a ha o e => kp a o (fun z => pg' (by rw [← z]; exact ha)) e⟩
    exact ⟨ok3, g, km, N.mono f (((f0.fz.trans f1.fzs).trans f2.fz).trans fz3)⟩⟩⟩⟩
/-- del path[k] -/
theorem own_del {κ α : Type} [DecidableEq κ] [Ky κ] {D : α → Od} {H : Hp} (n : κ) : ∀ {xs : List (κ × α)} {kvs : List (Key × V)} {gs : List (List Addr)}, (xs.map Prod.fst).Nodup → kvs.map (·.1) = xs.map (fun x => Ky.ky x.1) → Own3 (fun x : κ × α => D x.2) H xs (kvs.map (·.2)) gs → gs.flatten.Nodup →
    ∃ gs', ((ddel xs n).map Prod.fst).Nodup ∧ (dropK kvs (Ky.ky n)).map (·.1) = (ddel xs n).map (fun x => Ky.ky x.1) ∧ Own3 (fun x : κ × α => D x.2) H (ddel xs n) ((dropK kvs (Ky.ky n)).map (·.2)) gs' ∧ gs'.flatten.Nodup ∧ ∀ a ∈ gs'.flatten, a ∈ gs.flatten
  | [], [], _, _, _, .nil, _ => ⟨[], List.nodup_nil, rfl, .nil, List.nodup_nil, fun _ h => h⟩
  | [], _ :: _, _, _, e, _, _ => by cases e
  | _ :: _, [], _, _, e, _, _ => by cases e
  | x :: xs, u :: us, g :: gs, nd, e, .cons r t, ng => by
    rw [List.map_cons, List.map_cons] at e
    injection e with e1 e2
    rw [List.map_cons, List.nodup_cons] at nd
    rw [List.flatten_cons] at ng
    obtain ⟨m1, m2, m3⟩ := List.nodup_append.mp ng
    obtain ⟨gs', r1, r2, r3, r4, r5⟩ := own_del n nd.2 e2 t m2
    unfold ddel at r1 r2 r3 ⊢
    unfold dropK at r2 r3 ⊢
    rw [List.filter_cons, List.filter_cons]
    by_cases h : x.1 = n
    · rw [if_neg (by simp [h]), if_neg (by simp [e1, h])]
      exact ⟨gs', r1, r2, r3, r4, fun a ha => by rw [List.flatten_cons]; exact List.mem_append_right _ (r5 a ha)⟩
    · rw [if_pos (by simp [h]), if_pos (by simp only [decide_eq_true_eq]; exact fun z => h (Ky.inj (by rw [← e1, z])))]
      refine ⟨g :: gs', ?_, ?_, .cons r r3, ?_, fun a ha => ?_⟩
      · rw [List.map_cons]
        refine List.nodup_cons.mpr ⟨fun z => nd.1 ?_, r1⟩
        obtain ⟨q, hq, eq⟩ := List.mem_map.mp z
        exact List.mem_map.mpr ⟨q, (List.mem_filter.mp hq).1, eq⟩
      · rw [List.map_cons, List.map_cons, r2, e1]
      · rw [List.flatten_cons]
        exact List.nodup_append.mpr ⟨m1, r4, fun a ha b hb e => m3 a ha b (r5 b hb) e⟩
      · rw [List.flatten_cons] at ha ⊢
        exact (List.mem_append.mp ha).elim (List.mem_append_left _) fun h => List.mem_append_right _ (r5 a h)
theorem s_delFO {o i : Expr} {pos pos' : Pos} {β1 β2 α : Type} {T : Option γ} {k1 : β1 → Option γ} {k : β1 × β2 → Option γ} {D : α → Od} {n : β1 → β2 → κ} {xs : β1 → List (κ × α)} {back : β1 → List (κ × α) → Od} {v : V} {d : Od} {prm : Option Nat} (j : Nat)
    (ho : PE X o (tFo F Γ Δ T k1 v d (oMO D) xs back))
    (hi : ∀ b1, PE X i (tE false F Γ Δ (k1 b1) (fun b2 => grd (dhas (xs b1) (n b1 b2) = true) (k (b1, b2))) (fun b2 => Ky.kp (n b1 b2)) fun _ => Δ))
    (hr : ∀ b : β1 × β2, PSs X rest (tS F Γ (Δ.set j ⟨v, back b.1 (ddel (xs b.1) (n b.1 b.2)), prm⟩) N (k b))) (hj : Δ[j]? = some ⟨v, d, prm⟩ := by rfl) :
    PSs X (.Delete [.Subscript o i pos'] pos :: rest) (tS F Γ Δ N T) :=
  (pss_cons (ps_ddel ho (pe_ex fun b1 => hi b1)) (pss_ex hr)).wk fun _ σ H ⟨ok, g, e, f⟩ => ⟨ok, g, e, fun b1 w H1 kb1 f1 ok1 fo => ⟨b1, ok1, g, kb1, fun b2 z H2 kb2 f2 ok2 hz => by
    obtain ⟨c, km⟩ := grd_some kb2
    have hz := Ky.is hz
    obtain ⟨G2, ⟨p, kvs, gs, eG, ev, hp, zz, nd, ks, o3⟩, ndG, tr⟩ := ok2.focT hj (fo.gr f2.gr)
    have eG : G2 = p :: gs.flatten := eG
    subst eG
    obtain ⟨q1, q2⟩ := List.nodup_cons.mp ndG
    obtain ⟨gs', r1, r2, r3, r4, r5⟩ := own_del (n b1 b2) nd ks o3 q2
    have pg' : p ∉ gs'.flatten := fun h => q1 (r5 p h)
    have fzm : Fzs H2 (upd H2 p (.dK (dropK kvs (Ky.ky (n b1 b2))))) := Fzs.mut hp fun z => z
    have kp : ∀ a o, a ≠ p → H2 a = some o → upd H2 p (.dK (dropK kvs (Ky.ky (n b1 b2)))) a = some o := fun a o na e => by rw [upd_ne na]; exact e
    refine ⟨p, kvs, Ky.ky (n b1 b2), ev, hp, hz, by rw [own_val _ ks]; exact c, (b1, b2), ?_⟩
    obtain ⟨ok3, s3⟩ := tr (upd H2 p (.dK (dropK kvs (Ky.ky (n b1 b2))))) (ddel (xs b1) (n b1 b2)) (p :: gs'.flatten) (fun a o na e => kp a o (fun z => na (by rw [z]; exact List.mem_cons_self)) e) (fun a ha => by
        rcases List.mem_cons.mp ha with e | h
        · rw [e]; exact ⟨_, upd_same⟩
        · obtain ⟨o, e, _⟩ := o3.cells a h; exact upd_dom _ _ a o e) fzm (List.nodup_cons.mpr ⟨pg', r4⟩) (fun a ha => by
        rcases List.mem_cons.mp ha with e | ha
        · exact .inl (by rw [e]; exact List.mem_cons_self)
        · exact .inl (List.mem_cons_of_mem _ (r5 a ha))) ⟨p, _, gs', rfl, ev, upd_same, Nat.le_trans (ddel_len _ _) zz, r1, r2, r3.frame fzm fun a ha o e => kp a o (fun z => pg' (by rw [← z]; exact ha)) e⟩
    exact ⟨ok3, g, km, N.mono f ((f1.fzs.trans f2.fz).trans s3.fz)⟩⟩⟩
/-- {} -/
theorem x_dict0O {pos : Pos} {α : Type} {k : Unit → Option γ} (D : α → Od) : PE X (.Dict [] [] pos) (tO W F Γ Δ (k ()) k (fun _ => oMO (κ := κ) D []) fun _ => Δ) :=
  pe_dnewK.wk fun σ H Q ⟨ok, g, e, q⟩ p np => by
    have gr : Gr H (upd H p (.dK [])) := Gr.new np
    exact q () _ _ e gr.st (ok.add gr (G := [p]) (List.nodup_cons.mpr ⟨List.not_mem_nil, List.nodup_nil⟩) (fun a ha => by rw [List.mem_singleton.mp ha]; exact np) ⟨p, [], [], rfl, rfl, upd_same, Nat.zero_le _, List.nodup_nil, rfl, .nil⟩)
end
end
end L3
end
section
set_option Elab.async false
set_option linter.all false
set_option maxRecDepth 100000
set_option maxHeartbeats 4000000
namespace L3
open PySem PySem.Spec PyProof.Rows L2
/-! ### frozen things as things of one's own, with no places -/
def oF {α : Type} (E : α → Pd) (x : α) : Od where
  pr G H v := G = [] ∧ (E x).pr H v
  pd := E x
  frame := fun ⟨e, h⟩ _ f => ⟨e, (E x).mono f h⟩
  cells := fun ⟨e, _⟩ a ha => by rw [e] at ha; cases ha
  lockd := fun {G H H1 v} ⟨e, h⟩ h1 _ => (E x).mono (fun a o _ ha => by rw [h1 a (by rw [e]; exact List.not_mem_nil)]; exact ha) h
section
variable {X : Cx} {W : Bool} {F : Fm} {Γ : Gm} {Δ : Δs} {γ : Type}
theorem o_ofE {e : Expr} {β α : Type} {T : Option γ} {k : β → Option γ} {E : α → Pd} {x : β → α} {Δ' : β → Δs} (h : PE X e (tE W F Γ Δ T k (fun b => E (x b)) Δ')) : PE X e (tO W F Γ Δ T k (fun b => oF E (x b)) Δ') :=
  h.wk fun σ H Q ⟨ok, g, e, q⟩ => ⟨ok, g, e, fun b v H' kb st ok' hv => q b v H' kb st (by
    obtain ⟨⟨Δ0, e0, k0⟩, n⟩ := ok'
    exact ⟨Δ0, [], e0, k0.cons List.nodup_nil (fun _ h => nomatch h) ⟨rfl, hv⟩ (fun _ h => nomatch h), (fun _ _ h => nomatch h), n⟩)⟩
theorem own_flat {α : Type} {E : α → Pd} {H : Hp} : ∀ {xs : List α} {vs : List V} {gs : List (List Addr)}, Own3 (oF E) H xs vs gs → gs.flatten = [] ∧ Paired (fun x u => (E x).pr H u) xs vs
  | _, _, _, .nil => ⟨rfl, .nil⟩
  | _, _, _, .cons r t => by
    obtain ⟨e, p⟩ := own_flat t
    obtain ⟨e1, h⟩ := r
    exact ⟨by rw [List.flatten_cons, e, e1]; rfl, .cons h p⟩
theorem OkN.ofd {H0 : Hp} {σ : SS} {H : Hp} {w : V} {d d' : Od} (ok : OkN W F Γ H0 w d Δ σ H) (f : ∀ G H v, d.pr G H v → d'.pr G H v) : OkN W F Γ H0 w d' Δ σ H := by
  obtain ⟨Δ0, G, e, k, nw, n⟩ := ok
  exact ⟨Δ0, G, e, ⟨k.base, fun c hc => by
    rcases List.mem_cons.mp hc with z | z
    · subst z; exact f G H w (k.del _ List.mem_cons_self)
    · exact k.del c (List.mem_cons_of_mem _ z), k.nod, fun c hc a ha => by
    rcases List.mem_cons.mp hc with z | z
    · subst z; exact k.own _ List.mem_cons_self a ha
    · exact k.own c (List.mem_cons_of_mem _ z) a ha, k.mem⟩, nw, n⟩
section
variable {κ δ : Type} [DecidableEq κ] [Ky κ]
theorem oM_of {E : δ → Pd} {xs : List (κ × δ)} {G : List Addr} {H : Hp} {v : V} (h : (oMO (oF E) xs).pr G H v) : (oM E xs).pr G H v := by
  obtain ⟨p, kvs, gs, eg, ev, hp, z, nd, ks, o3⟩ := h
  obtain ⟨e, pp⟩ := own_flat (E := fun x : κ × δ => E x.2) (show Own3 (oF fun x : κ × δ => E x.2) H xs (kvs.map (·.2)) gs from by
    have : ∀ {xs : List (κ × δ)} {vs : List V} {gs : List (List Addr)}, Own3 (fun x : κ × δ => oF E x.2) H xs vs gs → Own3 (oF fun x : κ × δ => E x.2) H xs vs gs := by
      intro xs vs gs h
      induction h with
      | nil => exact .nil
      | cons r _ ih => exact .cons r ih
    exact this o3)
  exact ⟨p, kvs, by rw [eg, e], ev, hp, z, prM_of ks pp⟩
theorem o_M {e : Expr} {β : Type} {T : Option γ} {k : β → Option γ} {E : δ → Pd} {xs : β → List (κ × δ)} {Δ' : β → Δs} (h : PE X e (tO W F Γ Δ T k (fun b => oMO (oF E) (xs b)) Δ')) : PE X e (tO W F Γ Δ T k (fun b => oM E (xs b)) Δ') :=
  h.wk fun σ H Q ⟨ok, g, e, q⟩ => ⟨ok, g, e, fun b v H' kb st ok' => q b v H' kb st (ok'.ofd fun G H v h => oM_of h)⟩
/-! ### {k: v for x in xs} -/
def dcM {α : Type} : List α → List (κ × δ) → (α → Option (κ × δ)) → Option (List (κ × δ))
  | [], acc, _ => some acc
  | x :: xs, acc, f => (f x).bind fun p => dcM xs (dput acc p.1 p.2) f
variable {α β β2 β3 : Type} {g : TG} {own : List (Str × Nat)} {T : Option γ} {k : β × List (κ × δ) → Option γ} {Ex : α → Pd} {D : δ → Od} {bd : Gm → α → Gm} {xs : β → List α} {Δ1 : β → Δs} {f : β → α → Option (κ × δ)} {T2 : β → α → β2 → Option (κ × δ)} {ky : β → α → β2 → κ} {y : β → α → β2 → β3 → δ}
abbrev dcK (F : Fm) (Γ : Gm) (own : List (Str × Nat)) (bd : Gm → α → Gm) (C : β → Δs) (f : β → α → Option (κ × δ)) (T2 : β → α → β2 → Option (κ × δ)) (ky : β → α → β2 → κ) : TE := fun σ H Q => ∃ d b x, tE true F (bd (wipeG Γ (own.map (·.2))) x) (C b ++ [d]) (f b x) (T2 b x) (fun b2 => Ky.kp (ky b x b2)) (fun _ => C b ++ [d]) σ H Q
abbrev dcV (F : Fm) (Γ : Gm) (own : List (Str × Nat)) (bd : Gm → α → Gm) (C : β → Δs) (T2 : β → α → β2 → Option (κ × δ)) (ky : β → α → β2 → κ) (D : δ → Od) (y : β → α → β2 → β3 → δ) : TE := fun σ H Q => ∃ d b x b2, tO true F (bd (wipeG Γ (own.map (·.2))) x) (C b ++ [d]) (T2 b x b2) (fun b3 => some (ky b x b2, y b x b2 b3)) (fun b3 => D (y b x b2 b3)) (fun _ => C b ++ [d]) σ H Q
theorem Hk.oneD {H H0 : Hp} {d : Od} {D : Addr} {σ : SS} (k : Hk F (⟨.ref D, d, none⟩ :: Δ) H) (n : Nm Γ σ H) : OkN true F Γ H0 (.ref D) d Δ σ H := Ok.okN ⟨k, n⟩
theorem dc_imp (ht : TgtW g Ex bd (own.map (·.2))) :
    ∀ σ H Q, tO true F Γ Δ T k (fun b => oMO D b.2) (fun b => Δ1 b.1) σ H Q → tDc (tI true F Γ Δ T (fun b => (dcM (xs b) [] (f b)).bind fun r => k (b, r)) Ex xs Δ1) g (fun σ H Q => Q true H) (dcK F Γ own bd Δ1 f T2 ky) (dcV F Γ own bd Δ1 T2 ky D y) (own.map (·.2)) σ H Q :=
  fun σ H Q ⟨ok0, gg, e, q⟩ => ⟨ok0, gg, e, fun b J H1 kb f1 ok1 zl wk Da nD => by
    obtain ⟨r, er, kr⟩ := bind_some kb
    have grD : Gr H1 (upd H1 Da (.dK [])) := Gr.new nD
    have hk0 : Hk F (Δ1 b ++ [⟨.ref Da, oMO (κ := κ) D [], none⟩]) (upd H1 Da (.dK [])) :=
      (ok1.add (W := true) grD (G := [Da]) (v := .ref Da) (d := oMO (κ := κ) D []) (List.nodup_cons.mpr ⟨List.not_mem_nil, List.nodup_nil⟩) (fun a ha => by rw [List.mem_singleton.mp ha]; exact nD) ⟨Da, [], [], rfl, rfl, upd_same, Nat.zero_le _, List.nodup_nil, rfl, .nil⟩).ok.hk.perm (List.perm_append_singleton _ _).symm
    refine ⟨fun i m H' => i + m = (xs b).length ∧ St true H1 H' ∧ ∃ acc, acc.length ≤ i ∧ Hk F (Δ1 b ++ [⟨.ref Da, oMO D acc, none⟩]) H' ∧ dcM ((xs b).drop i) acc (f b) = some r, ⟨(xs b).length, Nat.zero_add _, grD.st, [], Nat.le_refl _, hk0, by rw [List.drop_zero]; exact er⟩, fun i m H2 ⟨em, st2, acc, la, hk2, ec⟩ => ?_⟩
    by_cases hi : i < (xs b).length
    · obtain ⟨x, hx, ed⟩ := drop_cons hi
      rw [ed] at ec
      obtain ⟨o, eo, ec⟩ := bind_some (show (f b x).bind _ = some r from ec)
      refine .inr ⟨((wk H2 st2.fz) i).1 hi, fun H' => (i + 1) + (m - 1) = (xs b).length ∧ St true H1 H' ∧ ∃ acc, acc.length ≤ i + 1 ∧ Hk F (Δ1 b ++ [⟨.ref Da, oMO D acc, none⟩]) H' ∧ dcM ((xs b).drop (i + 1)) acc (f b) = some r, fun H' h => ⟨m - 1, by omega, h⟩, fun v H3 hy => ?_⟩
      obtain ⟨gr3, pv⟩ := ((wk H2 st2.fz) i).2.2 x v H3 hx hy
      have st3 : St true H1 H3 := st2.trans gr3.st
      refine ht F Γ _ σ H3 x v _ (ok1.wipe st3.fz (hk2.gr gr3) _) pv fun σ4 ew ok4 => ⟨ew, iteT ⟨⟨.ref Da, oMO D acc, none⟩, b, x, ok4, o, eo, fun b2 kv H5 kb2 st5 ok5 hkv => ⟨⟨.ref Da, oMO D acc, none⟩, b, x, b2, ok5, o, kb2, fun b3 w H6 kb3 st6 okn => ?_⟩⟩⟩
      cases kb3
      have hlast : (Δ1 b ++ [⟨.ref Da, oMO D acc, none⟩])[(Δ1 b).length]? = some ⟨.ref Da, oMO D acc, none⟩ := by rw [List.getElem?_append_right (Nat.le_refl _), Nat.sub_self]; rfl
      obtain ⟨G2, Gn, ⟨p, kvs, gs, eG, ev, hp, zz, nd, ks, o3⟩, pn, ndG, tr⟩ := okn.absorb hlast
      cases ev
      have eG : G2 = Da :: gs.flatten := eG
      subst eG
      obtain ⟨q1, q2⟩ := List.nodup_cons.mp ndG
      obtain ⟨gs', r1, r2, r3, r4, r5⟩ := own_put (n := ky b x b2) nd ks o3 q2 pn
      have pg' : Da ∉ gs'.flatten := fun h => q1 (List.mem_append.mpr (r5 Da h))
      have fzm : Fzs H6 (upd H6 Da (.dK (putK kvs (Ky.ky (ky b x b2)) w))) := Fzs.mut hp fun z => z
      have kp : ∀ a o, a ≠ Da → H6 a = some o → upd H6 Da (.dK (putK kvs (Ky.ky (ky b x b2)) w)) a = some o := fun a o na e => by rw [upd_ne na]; exact e
      have kl : kvs.length = acc.length := by
        have := congrArg List.length ks
        rw [List.length_map, List.length_map] at this
        exact this
      have hlt : acc.length < sizeLine := by omega
      obtain ⟨ok3, fz3, dom3⟩ := tr (upd H6 Da (.dK (putK kvs (Ky.ky (ky b x b2)) w))) (oMO D (dput acc (ky b x b2) (y b x b2 b3))) (Da :: gs'.flatten) (fun a o na _ e => kp a o (fun z => na (by rw [z]; exact List.mem_cons_self)) e) (fun a ha => by
          have : ∃ o, H6 a = some o := by
            rcases ha with h | h
            · rcases List.mem_cons.mp h with e | h
              · rw [e]; exact ⟨_, hp⟩
              · obtain ⟨o, e, _⟩ := o3.cells a h; exact ⟨o, e⟩
            · obtain ⟨o, e, _⟩ := (D _).cells pn a h; exact ⟨o, e⟩
          obtain ⟨o, e⟩ := this
          exact upd_dom _ _ a o e) (List.nodup_cons.mpr ⟨pg', r4⟩) (fun a ha => .inl (by
          rcases List.mem_cons.mp ha with e | ha
          · exact .inl (by rw [e]; exact List.mem_cons_self)
          · exact (r5 a ha).imp (fun h => List.mem_cons_of_mem _ h) fun h => h)) ⟨Da, _, gs', rfl, rfl, upd_same, Nat.le_trans (dput_len _ _ _) hlt, r1, r2, r3.frame fzm fun a ha o e => kp a o (fun z => pg' (by rw [← z]; exact ha)) e⟩
      refine ⟨kvs, Ky.ky (ky b x b2), Ky.is hkv, hp, by rw [kl]; exact hlt, by omega, ((st3.trans st5).trans st6).trans ⟨fz3, (fun h => nomatch h), dom3⟩, dput acc (ky b x b2) (y b x b2 b3), Nat.le_trans (dput_len _ _ _) (by omega), ?_, ec⟩
      have hk7 := ok3.hk
      rw [List.set_append_right _ _ (Nat.le_refl _), Nat.sub_self] at hk7
      exact hk7
    · refine .inl ⟨((wk H2 st2.fz) i).2.1 (by omega), ?_⟩
      rw [List.drop_eq_nil_of_le (by omega)] at ec
      have ec : some acc = some r := ec
      cases ec
      have hkf := hk2.perm (List.perm_append_singleton _ _)
      exact q (b, r) _ H2 kr (f1.trans st2) (Hk.oneD hkf (ok1.nm.mono st2.fz))⟩
theorem x_dc {kx vx tg iter : Expr} {scope : Scope} {pos : Pos} (nd : X.N.Nodup) (hi : PI X tg iter (tI true F Γ Δ T (fun b => (dcM (xs b) [] (f b)).bind fun r => k (b, r)) Ex xs Δ1)) (ok : BlkOk X.N X.env.scope scope own) (hg : Blk X scope fun Y => PG Y tg g) (ht : TgtW g Ex bd (own.map (·.2)))
    (hk : ∀ d, Blk X scope fun Y => ∀ b x, PE Y kx (tE true F (bd (wipeG Γ (own.map (·.2))) x) (Δ1 b ++ [d]) (f b x) (T2 b x) (fun b2 => Ky.kp (ky b x b2)) fun _ => Δ1 b ++ [d]))
    (he : ∀ d, Blk X scope fun Y => ∀ b x b2, PE Y vx (tO true F (bd (wipeG Γ (own.map (·.2))) x) (Δ1 b ++ [d]) (T2 b x b2) (fun b3 => some (ky b x b2, y b x b2 b3)) (fun b3 => D (y b x b2 b3)) fun _ => Δ1 b ++ [d]))
    (hcm : X.calm = true := by rfl) (hs : ∀ x, foldedSetIterable iter X.env x = pure x := by intro _; rfl) :
    PE X (.DictComp kx vx [⟨tg, iter, [], 0⟩] scope pos) (tO true F Γ Δ T k (fun b => oMO D b.2) fun b => Δ1 b.1) :=
  (pe_dc hcm nd hi ok hg (tt := fun σ H Q => Q true H) (fun _ _ _ _ _ => pts_nil) (tk := dcK F Γ own bd Δ1 f T2 ky) (fun s H Cc cl fp => ⟨fun pins s' σ H Q I ⟨d, b, x, h⟩ => (hk d s _ Cc cl fp b x).run pins s' σ H Q I h⟩) (tv := dcV F Γ own bd Δ1 T2 ky D y) (fun s H Cc cl fp => ⟨fun pins s' σ H Q I ⟨d, b, x, b2, h⟩ => (he d s _ Cc cl fp b x b2).run pins s' σ H Q I h⟩) hs).wk (dc_imp ht)
end
end
end L3
end
section
set_option Elab.async false
set_option linter.all false
set_option maxRecDepth 100000
set_option maxHeartbeats 4000000
namespace PySem.SeqAt
open AutoSeq1 (wpAny_loadPart')
open MeetsSeq MeetsSeq2 MeetsSeq3 SeqRoads2
section
variable {prog : Program} {w : World}
theorem l3_ne_loopIn (l b : Addr) (items items2 : Array Value) (n n2 : Nat) (dd dd2 : Option Addr) (sl sl2 : Array (Option Value)) (hsz : items.size = items2.size) (e : Nat → Bool) (k : Nat) :
    ∀ i : Nat, items.size - i = k → MeetsIn prog w (Builtin.«list.__eq__.loop» ⟨[.ref l, .ref b, rawInt i, rawInt 3], []⟩)
      (fun A R s => s.heap.get? l = some { cls := .type "list", dict := dd, data := .seq items n, slots := sl } ∧ s.heap.get? b = some { cls := .type "list", dict := dd2, data := .seq items2 n2, slots := sl2 } ∧
        (∀ j (h1 : j < items.size) (h2 : j < items2.size), EqP prog w A.in1 s items[j] items2[j] (e j)) ∧
        R (.ok (.ret (.bool (!((List.range items.size).drop i).all e)))) s) := by
  induction k with
  | zero =>
    intro i hk A R s h
    obtain ⟨hp, g, d, tk, os⟩ := s; obtain ⟨hl, hb, he, h⟩ := h
    wp_walk using wpAny_loadPart' hl, wpAny_loadPart' hb
    have hi1 : items[((i : Nat) : Int).toNat]? = none := by simp; omega
    have hi2 : items2[((i : Nat) : Int).toNat]? = none := by simp; omega
    have hd : (List.range items.size).drop i = [] := by simp; omega
    rw [hd] at h
    rw [hi1, hi2]
    wp_walk using wpAny_loadPart' hl, wpAny_loadPart' hb
    show R (.ok (.ret (.bool (items.size != items2.size)))) _
    rw [hsz]
    simpa using h
  | succ k ih =>
    intro i hk A R s h
    obtain ⟨hp, g, d, tk, os⟩ := s; obtain ⟨hl, hb, he, h⟩ := h
    wp_walk using wpAny_loadPart' hl, wpAny_loadPart' hb
    have hlt : i < items.size := by omega
    have hlt2 : i < items2.size := by omega
    have hi1 : items[((i : Nat) : Int).toNat]? = some items[i] := by simp [hlt]
    have hi2 : items2[((i : Nat) : Int).toNat]? = some items2[i] := by simp [hlt2]
    have hd : (List.range items.size).drop i = i :: (List.range items.size).drop (i + 1) := by simp [List.drop_eq_getElem_cons, hlt]
    have hc : ((i : Int) + 1) = ((i + 1 : Nat) : Int) := by push_cast; rfl
    rw [hd, List.all_cons] at h
    rw [hi1, hi2]
    refine wpAny_bind (he i hlt hlt2 _ _ ?_)
    cases hb' : e i with
    | true =>
      rw [hb'] at h
      wp_walk
      rw [hc]
      exact ⟨plainId_quiet plain_eq_loop _, codeAny_builtin entry_eq_loop (by
        rw [Around.under_plainId plain_eq_loop _]
        exact ih (i + 1) (by omega) A R _ ⟨hl, hb, he, by simpa using h⟩)⟩
    | false =>
      rw [hb'] at h
      wp_walk using wpAny_loadPart' hl, wpAny_loadPart' hb
      rw [hi1, hi2]
      wp_walk
      simpa using h
theorem l3_list_neIn (l b : Addr) (items items2 : Array Value) (n n2 : Nat) (dd dd2 : Option Addr) (sl sl2 : Array (Option Value)) (hsz : items.size = items2.size) (e : Nat → Bool) :
    MeetsIn prog w (Builtin.«list.__ne__» ⟨[.ref l, .ref b], []⟩)
      (fun A R s => s.heap.get? l = some { cls := .type "list", dict := dd, data := .seq items n, slots := sl } ∧ s.heap.get? b = some { cls := .type "list", dict := dd2, data := .seq items2 n2, slots := sl2 } ∧
        (∀ j (h1 : j < items.size) (h2 : j < items2.size), EqP prog w A.in1 s items[j] items2[j] (e j)) ∧
        R (.ok (.ret (.bool (!(List.range items.size).all e)))) s) := by
  intro A R s h
  obtain ⟨hp, g, d, tk, os⟩ := s; obtain ⟨hl, hb, he, h⟩ := h
  have f3 := AutoSeq1.sub_list_list
  have hne : ¬ (items.size != items2.size) = true := by simp [hsz]
  wp_walk using wpAny_loadPart' hl, wpAny_loadPart' hb
  exact ⟨plainId_quiet plain_eq_loop _, codeAny_builtin entry_eq_loop (by
    rw [Around.under_plainId plain_eq_loop _]
    exact l3_ne_loopIn l b items items2 n n2 dd dd2 sl sl2 hsz e _ 0 rfl A R _ ⟨hl, hb, he, by simpa using h⟩)⟩
theorem l3_ne_lists {A : Around} {s : Shared} {l b : Addr} {items items2 : Array Value} {e : Nat → Bool} (hl : s.heap.IsList l items) (hb : s.heap.IsList b items2) (hsz : items.size = items2.size) (hu : A.units < cLine)
    (he : ∀ j (h1 : j < items.size) (h2 : j < items2.size), EqP prog w A.in1 s items[j] items2[j] (e j)) (E Q : Value → Shared → Prop) (h : Q (.bool (!(List.range items.size).all e)) s) : wpAny (model prog w) A (richCompare .NotEq (.ref l) (.ref b)) Q E s := by
  obtain ⟨⟨cls, dd, data, sl⟩, ho, hc, n, hd⟩ := id hl
  obtain ⟨⟨cls2, dd2, data2, sl2⟩, ho2, hc2, n2, hd2⟩ := id hb
  simp only at hc hd hc2 hd2
  subst hc hd hc2 hd2
  have ta : s.TypeIs (.ref l) "list" := ⟨_, ho, rfl⟩
  have tb : s.TypeIs (.ref b) "list" := ⟨_, ho2, rfl⟩
  exact wpAny_richCompare_same_room (op := .NotEq) ta tb F.slot_list_ne (call_meetsIn F.slot_list_ne ta F.entry_list_ne (F.args_list_ne_2 _ _) (l3_list_neIn l b items items2 n n2 dd dd2 sl sl2 hsz e)
    ⟨ho, ho2, he, show Value.bool (!(List.range items.size).all e) ≠ Value.notImplemented ∧ Q (.bool (!(List.range items.size).all e)) s from ⟨(fun x => nomatch x), h⟩⟩) hu
end
end PySem.SeqAt
end
section
set_option Elab.async false
set_option linter.all false
set_option maxRecDepth 100000
set_option maxHeartbeats 4000000
namespace L3
open PySem PySem.Spec PyProof.Rows L2
/-! ### == of nested things -/
structure De {α : Type} (E : α → Pd) where
  dep : Nat
  ok : α → α → Bool
  eqv : α → α → Bool
  rc : ∀ {X : Cx} {pins : List (Addr × Obj)} {σ : SS} {H : Hp} {s : Shared}, Inv X pins σ H s → ∀ A : Around, A.units + dep < cLine → ∀ x y, ok x y = true → ∀ v u v' u', (E x).pr H v → (E y).pr H u → RelV v v' → RelV u u' → SeqAt.EqP X.prog X.w A.in1 s v' u' (eqv x y)
  same : ∀ (H : Hp) x y v, ok x y = true → (E x).pr H v → (E y).pr H v → eqv x y = true
def Inj {α : Type} (E : α → Pd) : Prop := ∀ (H : Hp) x y v, (E x).pr H v → (E y).pr H v → x = y
theorem injInt : Inj pInt := fun H x y v h1 h2 => by
  have h1 : v = .int x := h1
  have h2 : v = .int y := h2
  rw [h1] at h2; cases h2; rfl
theorem injBl : Inj pBl := fun H x y v h1 h2 => by
  have h1 : v = .bl x := h1
  have h2 : v = .bl y := h2
  rw [h1] at h2; cases h2; rfl
theorem injStr : Inj pStr := fun H x y v h1 h2 => by
  have h1 : v = .str x := h1
  have h2 : v = .str y := h2
  rw [h1] at h2; cases h2; rfl
theorem inj_paired {α : Type} {E : α → Pd} (i : Inj E) {H : Hp} : ∀ {xs ys : List α} {vs : List V}, Paired (fun x u => (E x).pr H u) xs vs → Paired (fun x u => (E x).pr H u) ys vs → xs = ys
  | _, _, _, .nil, .nil => rfl
  | _, _, _, .cons a b, .cons c d => by rw [i _ _ _ _ a c, inj_paired i b d]
theorem injL {α : Type} {E : α → Pd} (i : Inj E) : Inj (pL E) := fun H x y v h1 h2 => by
  obtain ⟨a, o, vs, e, h, _, p⟩ := h1
  obtain ⟨a', o', vs', e', h', _, p'⟩ := h2
  rw [e] at e'
  cases e'
  rw [h] at h'
  cases h'
  exact inj_paired i p p'
theorem injT2 {α β : Type} {E : α → Pd} {G : β → Pd} (i : Inj E) (j : Inj G) : Inj (pT2 E G) := fun H x y v h1 h2 => by
  obtain ⟨a, u, w, e, h, p, q⟩ := h1
  obtain ⟨a', u', w', e', h', p', q'⟩ := h2
  rw [e] at e'
  cases e'
  rw [h] at h'
  cases h'
  exact Prod.ext (i _ _ _ _ p p') (j _ _ _ _ q q')
def deG {α : Type} {E : α → Pd} [DecidableEq α] (d : Dg E) (i : Inj E) (hd : d.dep < 60 := by decide) : De E where
  dep := 65
  ok x y := okG d x y
  eqv x y := decide (x = y)
  rc I A hu x y h v u v' u' hv hw rv ru := by
    obtain ⟨c1, c2⟩ := Bool.and_eq_true_iff.mp h
    obtain ⟨as, r1⟩ := Dp.reads I (d.toD x) v v' (d.dp hv) rv
    obtain ⟨bs, r2⟩ := Dp.reads I (d.toD y) u u' (d.dp hw) ru
    have eq := PySem.W.keq_at (A := A) r1 r2 (d.sh hd c1) (d.sh hd c2) (by show A.units + 1 + 64 < cLine; omega)
    rw [d.eq] at eq
    exact eq.eqP
  same H x y v _ h1 h2 := decide_eq_true (i H x y v h1 h2)
section
variable {κ α : Type} [DecidableEq κ] [Ky κ]
/-- two dicts with equal values at equal keys -/
def deqG (f : α → α → Bool) (xs ys : List (κ × α)) : Bool := xs.length == ys.length && xs.all fun p => match dget ys p.1 with | none => false | some y => f p.2 y
def dokG (f : α → α → Bool) (xs ys : List (κ × α)) : Bool := decide (xs.map Prod.fst).Nodup && xs.all fun p => match dget ys p.1 with | none => true | some y => f p.2 y
theorem deM_hits {E : α → Pd} (d : De E) {X : Cx} {pins : List (Addr × Obj)} {σ : SS} {H : Hp} {s : Shared} (I : Inv X pins σ H s) {A : Around} (hu : A.units + d.dep < cLine) {ys : List (κ × α)} {ls : List (Key × V)} {vb : List (Key × Value)} (py : Paired (PrM E H) ys ls) (rb : KV ls vb) :
    ∀ {xs : List (κ × α)} {ks : List (Key × V)} {va : List (Key × Value)}, (xs.all fun p => match dget ys p.1 with | none => true | some y => d.ok p.2 y) = true → Paired (PrM E H) xs ks → KV ks va → PySem.W.KeqHitsP X.prog X.w A.in1 s vb va (xs.all fun p => match dget ys p.1 with | none => false | some y => d.eqv p.2 y)
  | [], [], [], _, .nil, .nil => .nil
  | x :: xs, k :: ks, (key, v) :: va, hk, .cons r t, .cons q u => by
    rw [List.all_cons] at hk
    obtain ⟨hk1, hk2⟩ := Bool.and_eq_true_iff.mp hk
    have ih := deM_hits d I hu py rb hk2 t u
    have ek : k.1 = key := q.1
    rw [List.all_cons]
    have rr : RelO (valV ls k.1) (valueAt vb k.1) := rb.val k.1
    rw [r.1] at rr
    rcases prM_get x.1 py with ⟨e0, e1⟩ | ⟨y, w, e0, e1, hw⟩
    · rw [e0]
      rw [Bool.false_and]
      rw [e1] at rr
      refine .miss ?_
      rw [← ek, r.1]
      cases hv : valueAt vb (Ky.ky x.1) with
      | none => rfl
      | some z => rw [hv] at rr; exact rr.elim
    · rw [e1] at rr
      obtain ⟨z, hz, rz⟩ := rr.some_of
      have key_eq : valueAt vb key = some z := by rw [← ek, r.1]; exact hz
      rw [e0] at hk1 ⊢
      exact .hit key_eq (d.rc I A hu x.2 y hk1 k.2 w v z r.2 hw q.2 rz) ih
theorem prM_same {E : α → Pd} (d : De E) {H : Hp} {ys0 : List (κ × α)} : ∀ {xs ys : List (κ × α)} {us : List (Key × V)}, (xs.all fun p => match dget ys0 p.1 with | none => true | some y => d.ok p.2 y) = true → (∀ p ∈ ys, dget ys0 p.1 = some p.2) → Paired (PrM E H) xs us → Paired (PrM E H) ys us → (xs.all fun p => match dget ys0 p.1 with | none => false | some y => d.eqv p.2 y) = true
  | _, _, _, _, _, .nil, .nil => rfl
  | x :: _, y :: _, _, hk, hy, .cons a b, .cons c e => by
    rw [List.all_cons] at hk ⊢
    obtain ⟨hk1, hk2⟩ := Bool.and_eq_true_iff.mp hk
    have e1 : y.1 = x.1 := Ky.inj (by rw [← a.1, ← c.1])
    have e2 := hy y List.mem_cons_self
    rw [e1] at e2
    rw [e2] at hk1 ⊢
    rw [prM_same d hk2 (fun p hp => hy p (List.mem_cons_of_mem _ hp)) b e, Bool.and_true]
    exact d.same H x.2 y.2 _ hk1 a.2 c.2
theorem prM_keysEq {E : α → Pd} {H : Hp} : ∀ {xs ys : List (κ × α)} {us : List (Key × V)}, Paired (PrM E H) xs us → Paired (PrM E H) ys us → xs.map Prod.fst = ys.map Prod.fst
  | _, _, _, .nil, .nil => rfl
  | _, _, _, .cons a b, .cons c e => by rw [List.map_cons, List.map_cons, prM_keysEq b e, Ky.inj (a.1.symm.trans c.1)]
theorem dget_nd {xs : List (κ × α)} (nd : (xs.map Prod.fst).Nodup) : ∀ p ∈ xs, dget xs p.1 = some p.2 := by
  induction xs with
  | nil => intro p h; cases h
  | cons q xs ih =>
    rw [List.map_cons, List.nodup_cons] at nd
    intro p hp
    rcases List.mem_cons.mp hp with e | hp
    · rw [e]; exact dget_pos rfl
    · rw [dget_neg (fun e => nd.1 (List.mem_map.mpr ⟨p, hp, e.symm⟩))]
      exact ih nd.2 p hp
def deM {E : α → Pd} (d : De E) : De (pM (κ := κ) E) where
  dep := d.dep + 1
  ok := dokG d.ok
  eqv := deqG d.eqv
  rc {X pins σ H s} I A hu xs ys h v u v' u' hv hw rv ru := by
    obtain ⟨c1, c2⟩ := Bool.and_eq_true_iff.mp h
    obtain ⟨a, o, ks, rfl, ra, za, pa⟩ := hv
    obtain ⟨b, o', ls, rfl, rb, zb, pb⟩ := hw
    obtain rfl : v' = Value.ref a := rv
    obtain rfl : u' = Value.ref b := ru
    by_cases e : a = b
    · subst e
      rw [ra] at rb
      cases rb
      have ek := prM_keysEq pa pb
      have nd : (ys.map Prod.fst).Nodup := by rw [← ek]; exact of_decide_eq_true c1
      have e1 : deqG d.eqv xs ys = true := by
        unfold deqG
        rw [prM_same d c2 (dget_nd nd) pa pb, Bool.and_true, beq_iff_eq, paired_len pa, paired_len pb]
      rw [e1]
      exact (SeqAt.EqAt.same _).eqP
    · obtain ⟨_, ya, va, rva, da⟩ := dk_rd I.hok (.inr ⟨o, ra⟩)
      obtain ⟨_, yb, vb, rvb, db⟩ := dk_rd I.hok (.inr ⟨o', rb⟩)
      refine SeqAt.eqP_refs e fun E Q q => PySem.W.rcP_dicts (knd := mixKind X.prog X.w) ya yb da db (by show A.units + 1 < cLine; omega) (fun _ => deM_hits d I (A := A.in1) (by show A.units + 1 + d.dep < cLine; omega) pb rvb c2 pa rva) E Q ?_
      rw [← rva.length, ← rvb.length, ← paired_len pa, ← paired_len pb]
      exact q
  same H xs ys v h hv hw := by
    obtain ⟨c1, c2⟩ := Bool.and_eq_true_iff.mp h
    obtain ⟨a, o, ks, rfl, ra, za, pa⟩ := hv
    obtain ⟨b, o', ls, e, rb, zb, pb⟩ := hw
    cases e
    rw [ra] at rb
    cases rb
    have ek := prM_keysEq pa pb
    have nd : (ys.map Prod.fst).Nodup := by rw [← ek]; exact of_decide_eq_true c1
    unfold deqG
    rw [prM_same d c2 (dget_nd nd) pa pb, Bool.and_true, beq_iff_eq, paired_len pa, paired_len pb]
end
/-! lists -/
section
variable {α : Type}
def lokG (f : α → α → Bool) : List α → List α → Bool
  | [], [] => true
  | x :: xs, y :: ys => f x y && lokG f xs ys
  | _, _ => false
def leqG (f : α → α → Bool) : List α → List α → Bool
  | [], [] => true
  | x :: xs, y :: ys => f x y && leqG f xs ys
  | _, _ => false
theorem lokG_len {f : α → α → Bool} : ∀ {xs ys : List α}, lokG f xs ys = true → xs.length = ys.length
  | [], [], _ => rfl
  | [], _ :: _, h => by cases h
  | _ :: _, [], h => by cases h
  | x :: xs, y :: ys, h => congrArg (· + 1) (lokG_len (Bool.and_eq_true_iff.mp h).2)
theorem leqG_all {f : α → α → Bool} : ∀ {xs ys : List α} (e : Nat → Bool), xs.length = ys.length → (∀ j x y, xs[j]? = some x → ys[j]? = some y → e j = f x y) → (List.range xs.length).all e = leqG f xs ys
  | [], [], e, _, _ => rfl
  | [], _ :: _, _, h, _ => by cases h
  | _ :: _, [], _, h, _ => by cases h
  | x :: xs, y :: ys, e, h, k => by
    rw [List.length_cons, List.range_succ_eq_map, List.all_cons, List.all_map, k 0 x y rfl rfl]
    show (f x y && _) = (f x y && leqG f xs ys)
    rw [← leqG_all (xs := xs) (ys := ys) (e ∘ Nat.succ) (by simpa using h) fun j a b ha hb => k (j + 1) a b (by simpa using ha) (by simpa using hb)]
def eAt (f : α → α → Bool) (xs ys : List α) (j : Nat) : Bool := match xs[j]?, ys[j]? with | some x, some y => f x y | _, _ => true
theorem deL_items {E : α → Pd} (d : De E) {X : Cx} {pins : List (Addr × Obj)} {σ : SS} {H : Hp} {s : Shared} (I : Inv X pins σ H s) {A : Around} (hu : A.units + d.dep < cLine) : ∀ {xs ys : List α} {vs us : List V} {vs' us' : List Value}, lokG d.ok xs ys = true → Paired (fun x u => (E x).pr H u) xs vs → Paired (fun x u => (E x).pr H u) ys us → Vals vs vs' → Vals us us' → ∀ j (h1 : j < vs'.length) (h2 : j < us'.length), SeqAt.EqP X.prog X.w A.in1 s vs'[j] us'[j] (eAt d.eqv xs ys j)
  | [], [], [], [], [], _, _, .nil, .nil, .nil, _, j, h1, _ => absurd h1 (Nat.not_lt_zero j)
  | x :: xs, y :: ys, v :: vs, u :: us, v' :: vs', u' :: us', hk, .cons a b, .cons c e, .cons r t, .cons r' t', j, h1, h2 => by
    obtain ⟨hk1, hk2⟩ := Bool.and_eq_true_iff.mp hk
    cases j with
    | zero => exact d.rc I A hu x y hk1 v u v' u' a c r r'
    | succ j => exact deL_items d I hu hk2 b e t t' j (Nat.lt_of_succ_lt_succ h1) (Nat.lt_of_succ_lt_succ h2)
theorem deL_same {E : α → Pd} (d : De E) {H : Hp} : ∀ {xs ys : List α} {us : List V}, lokG d.ok xs ys = true → Paired (fun x u => (E x).pr H u) xs us → Paired (fun x u => (E x).pr H u) ys us → leqG d.eqv xs ys = true
  | _, _, _, _, .nil, .nil => rfl
  | _, _, _, hk, .cons a b, .cons c e => by
    obtain ⟨hk1, hk2⟩ := Bool.and_eq_true_iff.mp hk
    exact Bool.and_eq_true_iff.mpr ⟨d.same H _ _ _ hk1 a c, deL_same d hk2 b e⟩
theorem eAt_all {f : α → α → Bool} {xs ys : List α} (h : xs.length = ys.length) : (List.range xs.length).all (eAt f xs ys) = leqG f xs ys := leqG_all _ h fun j x y hx hy => by unfold eAt; rw [hx, hy]
def deL {E : α → Pd} (d : De E) : De (pL E) where
  dep := d.dep + 1
  ok := lokG d.ok
  eqv := leqG d.eqv
  rc {X pins σ H s} I A hu xs ys h v u v' u' hv hw rv ru := by
    obtain ⟨a, o, ks, rfl, ra, za, pa⟩ := hv
    obtain ⟨b, o', ls, rfl, rb, zb, pb⟩ := hw
    obtain rfl : v' = Value.ref a := rv
    obtain rfl : u' = Value.ref b := ru
    by_cases e : a = b
    · subst e
      rw [ra] at rb
      cases rb
      rw [deL_same d h pa pb]
      exact (SeqAt.EqAt.same _).eqP
    · obtain ⟨us, r1, p1, _⟩ := I.list (xs := ks) (.inl (.inr ⟨o, ra⟩))
      obtain ⟨ws, r2, p2, _⟩ := I.list (xs := ls) (.inl (.inr ⟨o', rb⟩))
      have l1 : us.length = xs.length := by rw [← r1.length, paired_len pa]
      have l2 : ws.length = ys.length := by rw [← r2.length, paired_len pb]
      have hl := lokG_len h
      refine SeqAt.eqP_refs e fun E Q q => SeqAt.rcP_lists (e := eAt d.eqv xs ys) p1.isList p2.isList (by rw [List.size_toArray, List.size_toArray, l1, l2, hl]) (by show A.units + 1 < cLine; omega) (fun j h1 h2 => ?_) E Q ?_
      · have k := deL_items d I (A := A.in1) (by show A.units + 1 + d.dep < cLine; omega) h pa pb r1 r2 j (by simpa using h1) (by simpa using h2)
        simpa using k
      · rw [List.size_toArray, l1, eAt_all hl]
        exact q
  same H xs ys v h hv hw := by
    obtain ⟨a, o, ks, rfl, ra, za, pa⟩ := hv
    obtain ⟨b, o', ls, e, rb, zb, pb⟩ := hw
    cases e
    rw [ra] at rb
    cases rb
    exact deL_same d h pa pb
end
end L3
end
section
set_option Elab.async false
set_option linter.all false
set_option maxRecDepth 100000
set_option maxHeartbeats 4000000
namespace L3
open PySem PySem.Spec PyProof.Rows L2
section
variable {X : Cx} {W : Bool} {F : Fm} {Γ : Gm} {Δ : Δs} {γ : Type}
def rEqQ (A : Around) (c : Bool → Bool) : R2 := fun x y H Q => ∃ (α : Type) (E : α → Pd) (d : De E) (_ : A.units + d.dep < cLine) (xs ys : List α), lokG d.ok xs ys = true ∧ (pL E xs).pr H x ∧ (pL E ys).pr H y ∧ Q (.bl (c (leqG d.eqv xs ys))) H
theorem op_eqQ : OpR X (compareOp .Eq) (rEqQ X.A id) := by
  intro pins s σ H x y v u Q I rx ry h
  obtain ⟨α, E, d, hu, xs, ys, hk, ⟨a, o, ks, rfl, ra, _, pa⟩, ⟨b, o', ls, rfl, rb, _, pb⟩, q⟩ := h
  obtain rfl : v = Value.ref a := rx
  obtain rfl : u = Value.ref b := ry
  obtain ⟨us, r1, p1, _⟩ := I.list (xs := ks) (.inl (.inr ⟨o, ra⟩))
  obtain ⟨ws, r2, p2, _⟩ := I.list (xs := ls) (.inl (.inr ⟨o', rb⟩))
  have l1 : us.length = xs.length := by rw [← r1.length, paired_len pa]
  have l2 : ws.length = ys.length := by rw [← r2.length, paired_len pb]
  have hl := lokG_len hk
  refine SeqAt.rcP_lists (e := eAt d.eqv xs ys) p1.isList p2.isList (by rw [List.size_toArray, List.size_toArray, l1, l2, hl]) (by omega) (fun j h1 h2 => ?_) _ _ ?_
  · have k := deL_items d I (A := X.A) hu hk pa pb r1 r2 j (by simpa using h1) (by simpa using h2)
    simpa using k
  · rw [List.size_toArray, l1, eAt_all hl]
    exact ⟨.bl (leqG d.eqv xs ys), H, I, rfl, q⟩
theorem op_neQ : OpR X (compareOp .NotEq) (rEqQ X.A fun b => !b) := by
  intro pins s σ H x y v u Q I rx ry h
  obtain ⟨α, E, d, hu, xs, ys, hk, ⟨a, o, ks, rfl, ra, _, pa⟩, ⟨b, o', ls, rfl, rb, _, pb⟩, q⟩ := h
  obtain rfl : v = Value.ref a := rx
  obtain rfl : u = Value.ref b := ry
  obtain ⟨us, r1, p1, _⟩ := I.list (xs := ks) (.inl (.inr ⟨o, ra⟩))
  obtain ⟨ws, r2, p2, _⟩ := I.list (xs := ls) (.inl (.inr ⟨o', rb⟩))
  have l1 : us.length = xs.length := by rw [← r1.length, paired_len pa]
  have l2 : ws.length = ys.length := by rw [← r2.length, paired_len pb]
  have hl := lokG_len hk
  refine SeqAt.l3_ne_lists (e := eAt d.eqv xs ys) p1.isList p2.isList (by rw [List.size_toArray, List.size_toArray, l1, l2, hl]) (by omega) (fun j h1 h2 => ?_) _ _ ?_
  · have k := deL_items d I (A := X.A) hu hk pa pb r1 r2 j (by simpa using h1) (by simpa using h2)
    simpa using k
  · rw [List.size_toArray, l1, eAt_all hl]
    exact ⟨.bl (!leqG d.eqv xs ys), H, I, rfl, q⟩
section
variable {a b : Expr} {pos : Pos} {β1 β2 α : Type} {T : Option γ} {k1 : β1 → Option γ} {k : β1 × β2 → Option γ} {Δ1 : β1 → Δs} {Δ2 : β1 → β2 → Δs} {Ee : α → Pd} {x : β1 → List α} {y : β1 → β2 → List α}
theorem x_eqQ (d : De Ee) (hu : X.A.units + d.dep < cLine) (ha : PE X a (tE W F Γ Δ T k1 (fun b => pL Ee (x b)) Δ1)) (hb : ∀ b1, PE X b (tE W F Γ (Δ1 b1) (k1 b1) (fun b2 => grd (lokG d.ok (x b1) (y b1 b2) = true) (k (b1, b2))) (fun b2 => pL Ee (y b1 b2)) (Δ2 b1))) :
    PE X (.Compare a [.Eq] [b] pos) (tE W F Γ Δ T k (fun b => pBl (leqG d.eqv (x b.1) (y b.1 b.2))) fun b => Δ2 b.1 b.2) :=
  x2g (b_cmp op_eqQ (nomark _)) ha hb fun b1 b2 σ v w H Q ok c hv hw q => ⟨α, Ee, d, hu, x b1, y b1 b2, c, hv, hw, q _ rfl⟩
theorem x_neQ (d : De Ee) (hu : X.A.units + d.dep < cLine) (ha : PE X a (tE W F Γ Δ T k1 (fun b => pL Ee (x b)) Δ1)) (hb : ∀ b1, PE X b (tE W F Γ (Δ1 b1) (k1 b1) (fun b2 => grd (lokG d.ok (x b1) (y b1 b2) = true) (k (b1, b2))) (fun b2 => pL Ee (y b1 b2)) (Δ2 b1))) :
    PE X (.Compare a [.NotEq] [b] pos) (tE W F Γ Δ T k (fun b => pBl (!leqG d.eqv (x b.1) (y b.1 b.2))) fun b => Δ2 b.1 b.2) :=
  x2g (b_cmp op_neQ (nomark _)) ha hb fun b1 b2 σ v w H Q ok c hv hw q => ⟨α, Ee, d, hu, x b1, y b1 b2, c, hv, hw, q _ rfl⟩
end
end
theorem o_T {Y : Cx} {W : Bool} {F : Fm} {β : Type} {Γ : Gm} {Δ : Δs} {γ : Type} {e : Expr} {T T' : Option γ} {k : β → Option γ} {D : β → Od} {Δ' : β → Δs} (h : PE Y e (tO W F Γ Δ T' k D Δ')) (hT : T = T') : PE Y e (tO W F Γ Δ T k D Δ') := by rw [hT]; exact h
end L3
end
section
set_option Elab.async false
set_option linter.all false
set_option maxRecDepth 100000
set_option maxHeartbeats 4000000
set_option autoImplicit true
/-! guarded tests -/
namespace L3
open PySem PySem.Spec PyProof.Rows L2
theorem room_dep {k n : Nat} {A : Around} (r : Room k A) (h : n ≤ 200) : A.units + n < cLine := by have := r.un; omega
section
variable {X : Cx} {W : Bool} {F : Fm} {Γ : Gm} {Δ : Δs} {γ : Type}
section
variable {e a b : Expr} {r : R2} {β1 β2 : Type} {T : Option γ} {k1 : β1 → Option γ} {E1 : β1 → Pd} {E2 : β1 → β2 → Pd} {Δ1 : β1 → Δs} {Δ2 : β1 → β2 → Δs}
theorem t2g {c : β1 × β2 → Bool} {k : β1 × β2 → Option γ} {d : β1 → β2 → Prop} [∀ b1 b2, Decidable (d b1 b2)] (h2 : Bin2T X e a b r) (ha : PE X a (tE W F Γ Δ T k1 E1 Δ1)) (hb : ∀ b1, PE X b (tE W F Γ (Δ1 b1) (k1 b1) (fun b2 => grd (d b1 b2) (k (b1, b2))) (E2 b1) (Δ2 b1)))
    (hv : ∀ b1 b2 σ v w H Q, Ok F Γ (Δ2 b1 b2) σ H → d b1 b2 → (E1 b1).pr H v → (E2 b1 b2).pr H w → (∀ u, (pBl (c (b1, b2))).pr H u → Q u H) → r v w H Q) : PT X e (tTs W F Γ Δ T k c fun b => Δ2 b.1 b.2) :=
  t2_core h2 ha hb fun σ H Q ⟨ok, g, e, q⟩ => ⟨ok, g, e, fun b1 b2 v w H2 kb f ok2 hv1 hv2 => hv b1 b2 σ v w H2 _ ok2 (grd_some kb).1 hv1 hv2 fun u hu => ⟨c (b1, b2), hu, q (b1, b2) H2 (grd_some kb).2 f ok2⟩⟩
end
section
variable {a b : Expr} {pos : Pos} {β1 β2 α : Type} {T : Option γ} {k1 : β1 → Option γ} {k : β1 × β2 → Option γ} {Δ1 : β1 → Δs} {Δ2 : β1 → β2 → Δs} {Ee : α → Pd} {x : β1 → List α} {y : β1 → β2 → List α}
theorem t_eqQ (d : De Ee) (hu : X.A.units + d.dep < cLine) (ha : PE X a (tE W F Γ Δ T k1 (fun b => pL Ee (x b)) Δ1)) (hb : ∀ b1, PE X b (tE W F Γ (Δ1 b1) (k1 b1) (fun b2 => grd (lokG d.ok (x b1) (y b1 b2) = true) (k (b1, b2))) (fun b2 => pL Ee (y b1 b2)) (Δ2 b1))) :
    PT X (.Compare a [.Eq] [b] pos) (tTs W F Γ Δ T k (fun b => leqG d.eqv (x b.1) (y b.1 b.2)) fun b => Δ2 b.1 b.2) :=
  t2g (bt_cmp op_eqQ (nomark _)) ha hb fun b1 b2 σ v w H Q ok c hv hw q => ⟨α, Ee, d, hu, x b1, y b1 b2, c, hv, hw, q _ rfl⟩
theorem t_neQ (d : De Ee) (hu : X.A.units + d.dep < cLine) (ha : PE X a (tE W F Γ Δ T k1 (fun b => pL Ee (x b)) Δ1)) (hb : ∀ b1, PE X b (tE W F Γ (Δ1 b1) (k1 b1) (fun b2 => grd (lokG d.ok (x b1) (y b1 b2) = true) (k (b1, b2))) (fun b2 => pL Ee (y b1 b2)) (Δ2 b1))) :
    PT X (.Compare a [.NotEq] [b] pos) (tTs W F Γ Δ T k (fun b => !leqG d.eqv (x b.1) (y b.1 b.2)) fun b => Δ2 b.1 b.2) :=
  t2g (bt_cmp op_neQ (nomark _)) ha hb fun b1 b2 σ v w H Q ok c hv hw q => ⟨α, Ee, d, hu, x b1, y b1 b2, c, hv, hw, q _ rfl⟩
end
section
variable {a b : Expr} {pos : Pos} {β1 β2 α : Type} [DecidableEq α] {T : Option γ} {k1 : β1 → Option γ} {k : β1 × β2 → Option γ} {Δ1 : β1 → Δs} {Δ2 : β1 → β2 → Δs} {Ee : α → Pd} {x : β1 → α} {y : β1 → β2 → α}
theorem t_eqG (d : Dg Ee) (hu : X.A.units + 64 < cLine) (ha : PE X a (tE W F Γ Δ T k1 (fun b => Ee (x b)) Δ1)) (hb : ∀ b1, PE X b (tE W F Γ (Δ1 b1) (k1 b1) (fun b2 => grd (okG d (x b1) (y b1 b2) = true) (k (b1, b2))) (fun b2 => Ee (y b1 b2)) (Δ2 b1))) (hd : d.dep < 60 := by decide) :
    PT X (.Compare a [.Eq] [b] pos) (tTs W F Γ Δ T k (fun b => decide (x b.1 = y b.1 b.2)) fun b => Δ2 b.1 b.2) :=
  t2g (bt_cmp (op_eqD hu) (nomark _)) ha hb fun b1 b2 σ v w H Q ok c hv hw q => by
    obtain ⟨c1, c2⟩ := Bool.and_eq_true_iff.mp c
    exact ⟨_, _, d.dp hv, d.dp hw, d.sh hd c1, d.sh hd c2, by rw [d.eq]; exact q _ rfl⟩
theorem t_neG (d : Dg Ee) (hu : X.A.units + 64 < cLine) (ha : PE X a (tE W F Γ Δ T k1 (fun b => Ee (x b)) Δ1)) (hb : ∀ b1, PE X b (tE W F Γ (Δ1 b1) (k1 b1) (fun b2 => grd (okG d (x b1) (y b1 b2) = true) (k (b1, b2))) (fun b2 => Ee (y b1 b2)) (Δ2 b1))) (hd : d.dep < 60 := by decide) :
    PT X (.Compare a [.NotEq] [b] pos) (tTs W F Γ Δ T k (fun b => !decide (x b.1 = y b.1 b.2)) fun b => Δ2 b.1 b.2) :=
  t2g (bt_cmp (op_neD hu) (nomark _)) ha hb fun b1 b2 σ v w H Q ok c hv hw q => by
    obtain ⟨c1, c2⟩ := Bool.and_eq_true_iff.mp c
    exact ⟨_, _, d.dp hv, d.dp hw, d.sh hd c1, d.sh hd c2, by rw [d.eq]; exact q _ rfl⟩
end
end
end L3
end
section
set_option Elab.async false
set_option linter.all false
set_option maxRecDepth 100000
set_option maxHeartbeats 2000000
/-! own exceptions over ValueError whose __init__ says super().__init__(text), then self.f = f for each of its parameters -/
namespace PySem
namespace SxX
open PySem.W PySem.Calls PyProof.Rows PySem.HandSPX
abbrev exR (C t : Addr) (dv : Option Addr) : Obj := { cls := .ref C, dict := dv, data := .fields #[.ref t, .none, .none, .none, .bool false, .none] }
/-- self.f = f, for each f -/
inductive Stores : List Stmt → List Str → Prop
  | nil : Stores [] []
  | cons {rest : List Stmt} {fs : List Str} {f : Str} {q1 q2 q3 q4 : Pos} (hd : (f == ("__debug__" : Str)) = false) (h : Stores rest fs) : Stores (.Assign [.Attribute (.Name "self" q1) f q2] (.Name f q3) q4 :: rest) (f :: fs)
theorem kept_but {K : Frag} {h h' : Heap} {x : Addr} (X : K.In h) (hx : K.lookup x = none) (k : ∀ b o, b ≠ x → h.get? b = some o → h'.get? b = some o) : K.In h' := fun a o e =>
  k a o (fun z => by rw [z, hx] at e; cases e) (X a o e)
theorem ns_but {h h' : Heap} {L x : Addr} {m : Str → Option Value} (hn : h.Ns L m) (hL : L ≠ x) (k : ∀ b o, b ≠ x → h.get? b = some o → h'.get? b = some o) : h'.Ns L m := by
  obtain ⟨oL, es, ep, e, r⟩ := hn
  exact ⟨oL, es, ep, k _ _ hL e, r⟩
theorem lookup_cons (f g : Str) (v : Value) (l : List (Str × Value)) : ((f, v) :: l).lookup g = if g = f then some v else l.lookup g := by
  by_cases h : g = f
  · subst h; rw [if_pos rfl]; simp [List.lookup]
  · rw [if_neg h]
    have : (g == f) = false := by simpa using h
    simp [List.lookup, this]
theorem within_self (l : List (Str × Value)) : Within (fun y => l.lookup y) (l.map (·.1)) := fun y hy => by
  induction l with
  | nil => exact absurd (show (none : Option Value) ≠ none from hy) (fun z => z rfl)
  | cons p l ih =>
    obtain ⟨f, v⟩ := p
    have hy : ((f, v) :: l).lookup y ≠ none := hy
    rw [lookup_cons] at hy
    by_cases e : y = f
    · rw [e]; exact List.mem_cons_self
    · rw [if_neg e] at hy
      exact List.mem_cons_of_mem _ (ih hy)
/-- the exception's dict -/
def Dct (h : Heap) (K : Frag) (x L n : Addr) (dv : Option Addr) (done : List (Str × Value)) : Prop :=
  match dv with
  | none => done = []
  | some dx => h.Ns1 dx (fun y => done.lookup y) ∧ K.lookup dx = none ∧ dx ≠ x ∧ dx ≠ L ∧ n ≤ dx
section
variable {prog : Program} {w : World} {A : Around} {E : Value → Shared → Prop} {K : Frag} {C x L t1 : Addr} {env : Env} {g : Array GenState} {d : Drawn} {os : OsState} {hb : Heap} {m : Str → Option Value} {cd : ClassData}
theorem ldL {M : Model} {s : Shared} {y : Str} {pos : Pos} {v : Value} {Q : Value → Shared → Prop} (hk : env.scope.kind = .function) (hl : env.kindOf y = some .local) (hL : env.locals = L) (hn : s.heap.Ns L m) (hv : m y = some v) (h : Q v s) (hd : (y == ("__debug__" : Str)) = false) :
    wpAny M A (eval (.Name y pos) env) Q E s := wpAny_Name (wpAny_loadName_local hk hl (by rw [hL]; exact hn) hv h) hd
theorem stores_run (hk : env.scope.kind = .function) (hL : env.locals = L) (hself : env.kindOf "self" = some .local) (hms : m "self" = some (.ref x)) (hcl : clsIn K C = some cd) (hm : refsVE cd.mro = true) (hh : cd.hasDict = true) (sa : findIn K (.ref C) "__setattr__" = some (some (.builtin "object.__setattr__")))
    (hnx : K.lookup x = none) (hxL : L ≠ x) : ∀ {st : List Stmt} {fs : List Str}, Stores st fs → ∀ {h : Heap} {tk : Nat} {vs : List Value} {done : List (Str × Value)} {dv : Option Addr} {Q : Flow → Shared → Prop},
    K.In h → h.Ns L m → vs.length = fs.length → (∀ (i : Nat) f v, fs[i]? = some f → vs[i]? = some v → m f = some v) → (∀ f ∈ fs, env.kindOf f = some .local) → (∀ f ∈ fs, findIn K (.ref C) f = some none) → h.get? x = some (exR C t1 dv) → Dct h K x L hb.objs.size dv done →
    done.length + fs.length ≤ 900 → L < h.objs.size → hb.objs.size ≤ h.objs.size → (∀ b o, b ≠ x → hb.get? b = some o → h.get? b = some o) →
    (∀ (h' : Heap) (tk' : Nat) (dv' : Option Addr), (∀ b o, b ≠ x → hb.get? b = some o → h'.get? b = some o) → h'.get? x = some (exR C t1 dv') → Dct h' K x L hb.objs.size dv' ((fs.zip vs).reverse ++ done) → (fs = [] → dv' = dv) → Q .next ⟨h', g, d, tk', os⟩) →
    wpAny (model prog w) A (execs st env) Q E ⟨h, g, d, tk, os⟩
  | _, _, .nil, h, tk, vs, done, dv, Q, X, hn, hl, hv, hloc, hno, hx, hD, hz, hLs, hsz, hkb, hq => by
    refine wpAny_execs_nil (hq h tk dv hkb hx ?_ fun _ => rfl)
    have : vs = [] := List.eq_nil_of_length_eq_zero hl
    subst this
    exact hD
  | _, f :: fs, .cons hdb hS, h, tk, [], done, dv, Q, X, hn, hl, hv, hloc, hno, hx, hD, hz, hLs, hsz, hkb, hq => by cases hl
  | _, f :: fs, .cons hdb hS, h, tk, v :: vs, done, dv, Q, X, hn, hl, hv, hloc, hno, hx, hD, hz, hLs, hsz, hkb, hq => by
    have hfv : m f = some v := hv 0 f v rfl rfl
    have hz2 : done.length + (fs.length + 1) ≤ 900 := by simpa using hz
    refine wpAny_execs_cons (plainObj_wpAny_Assign_Attribute ?_)
    refine ldL hk (hloc f List.mem_cons_self) hL hn hfv (ldL hk hself hL hn hms ?_ (by decide)) hdb
    have next : ∀ (h' : Heap) (tk' : Nat) (dx : Addr), (∀ b o, b ≠ x → hb.get? b = some o → h'.get? b = some o) → K.In h' → h'.Ns L m → h'.get? x = some (exR C t1 (some dx)) → h'.Ns1 dx (fun y => ((f, v) :: done).lookup y) → K.lookup dx = none → dx ≠ x → dx ≠ L → hb.objs.size ≤ dx → L < h'.objs.size → hb.objs.size ≤ h'.objs.size →
        wpAny (model prog w) A (execs _ env) Q E ⟨h', g, d, tk', os⟩ := fun h' tk' dx k1 X' n' x' d' kd dx1 dxL dn L' sz' =>
      stores_run hk hL hself hms hcl hm hh sa hnx hxL hS (done := (f, v) :: done) (dv := some dx) X' n' (by simpa using hl) (fun i f' v' e1 e2 => hv (i + 1) f' v' e1 e2) (fun f' hf => hloc f' (List.mem_cons_of_mem _ hf)) (fun f' hf => hno f' (List.mem_cons_of_mem _ hf)) x' ⟨d', kd, dx1, dxL, dn⟩ (by rw [List.length_cons]; omega) L' sz' k1 fun h2 tk2 dv2 k2 x2 d2 _ => hq h2 tk2 dv2 k2 x2 (by
        rw [List.zip_cons_cons, List.reverse_cons, List.append_assoc]
        exact d2) (fun z => by cases z)
    cases dv with
    | none =>
      have hd0 : done = [] := hD
      refine set_plain X (ox := exR C t1 none) (od := none) ⟨hx, rfl, rfl, trivial⟩ sa ?_
      refine exc_osa X hx hcl hm hh (hno f List.mem_cons_self) fun h' tk' dx k dn dne hx' hn' => ?_
      have kd : K.lookup dx = none := by
        cases e : K.lookup dx with
        | none => rfl
        | some o => exact absurd (Heap.lt_size (X _ _ e)) (Nat.not_lt.mpr dn)
      have dn : h.objs.size ≤ dx := dn
      have h3 : dx < h'.objs.size := by
        obtain ⟨oD, esD, epD, hoD, hdD, _⟩ := hn'.count (Within.cons f v Within.nil)
        exact Heap.lt_size hoD
      have hs : h.objs.size ≤ h'.objs.size := Nat.le_trans dn (Nat.le_of_lt h3)
      refine next h' tk' dx (fun b o hb1 hb2 => k b o hb1 (hkb b o hb1 hb2)) (kept_but X hnx k) (ns_but hn hxL k) hx' ?_ kd dne (fun z => Nat.lt_irrefl _ (Nat.lt_of_lt_of_le hLs (by rw [← z]; exact dn))) (Nat.le_trans hsz dn) (Nat.lt_of_lt_of_le hLs hs) (Nat.le_trans hsz hs)
      have e : (fun y => if y = f then some v else none) = fun y => ((f, v) :: done).lookup y := by
        funext y
        rw [lookup_cons, hd0]
        rfl
      rw [← e]
      exact hn'
    | some dx =>
      obtain ⟨hns, kd, dne, dL, dn⟩ := hD
      have dn : hb.objs.size ≤ dx := dn
      have hw := within_self done
      obtain ⟨oD, esD, epD, hoD, hdD, _⟩ := hns.count hw
      refine set_plain X (ox := exR C t1 (some dx)) (od := some oD) ⟨hx, rfl, rfl, hoD⟩ sa ?_
      refine OEX.osa_old X hx hns hw (by rw [List.length_map]; omega) hcl hm hh (hno f List.mem_cons_self) fun h' tk' k hn' => ?_
      have e : (fun y => if y = f then some v else done.lookup y) = fun y => ((f, v) :: done).lookup y := by
        funext y
        rw [lookup_cons]
      rw [e] at hn'
      have hx' := k x _ (Ne.symm dne) hx
      have L' : L < h'.objs.size := by
        obtain ⟨oL, es, ep, e, r⟩ := hn
        exact Heap.lt_size (k L _ (Ne.symm dL) e)
      have sz' : hb.objs.size ≤ h'.objs.size := by
        have h3 : dx < h'.objs.size := by
          obtain ⟨oD, esD, epD, hoD, hdD, _⟩ := hn'.count (within_self ((f, v) :: done))
          exact Heap.lt_size hoD
        exact Nat.le_trans dn (Nat.le_of_lt h3)
      exact next h' tk' dx (fun b o hb1 hb2 => k b o (fun z => by
        have := Heap.lt_size hb2
        rw [z] at this
        exact Nat.lt_irrefl _ (Nat.lt_of_lt_of_le this dn)) (hkb b o hb1 hb2)) (kept_but X kd k) (ns_but hn (Ne.symm dL) k) hx' hn' kd dne dL dn L' sz'
end
end SxX
end PySem
end
section
set_option Elab.async false
set_option linter.all false
set_option maxRecDepth 100000
set_option maxHeartbeats 2000000
namespace PySem
namespace SxX
open PySem.W PySem.Calls PyProof.Rows PySem.HandSPX
/-- what the written part says of the class at C and its __init__, at fI -/
structure SxTxt (prog : Program) (K : Frag) (C fI : Addr) (ps : List Str) : Prop where
  cls : ∃ nm q N bs bm sn sub ab col dd k0 k1 k2 k3 k5, K.lookup C = some (excClassObj nm q C N bs bm true sn sub ab col dd k0 k1 k2 k3 k5 "ValueError.__new__") ∧ refsVE bm = true
  sa : findIn K (.ref C) "__setattr__" = some (some (.builtin "object.__setattr__"))
  noN : ∀ f ∈ ps, findIn K (.ref C) f = some none
  iC : findIn K (.ref C) "__init__" = some (some (.ref fI))
  tC : typeIn K (.ref fI) = some (.type "function")
  kC : keepIn K (.ref C) = true
  exC : subIn K (.ref C) (.type "BaseException") = some true
  veC : subIn K (.ref C) (.type "ValueError") = some true
  tyC : typeIn K (.ref C) = some (.type "type")
  sup : ks_superIn K C C "__init__" = some (some (.builtin "ValueError.__init__"))
  opq : nsIn K cStatics "thirdparty.any" = some none
  few : ps.length ≤ 900
  top : (prog.main.scope.names.lookup ("super" : Str)).isSome = false
  fn : ∃ (oc : Value) (od : Option Addr) (doc pm : Value) (an : Option Addr) (cda : Addr) (ct : Value) (osl : Array (Option Value)) (cc : Addr) (qual : Str) (params : Arguments) (ar : Arg) (text : Str) (kk : Nat) (q0 q1 q2 q3 q4 q5 : Pos) (stores : List Stmt) (scope : Scope)
      (ccl : Value) (cdd : Option Addr) (vs : Array Value) (ccs : Array (Option Value)) (file : Str) (tf : Tok) (cl : Value) (cld : Option Addr) (csl : Array (Option Value)),
    K.lookup fI = some ⟨oc, od, .func (ksFn "__init__" qual params (.Expr (.Call (.Attribute (.Call (.Name "super" q1) [] [] q2) "__init__" q3) [.Constant (.str text) kk q0] [] q4) q5 :: stores) scope .none .none doc pm an (.ref cda) ct cc), osl⟩ ∧ codeIn K (.ref cda) qual = true ∧ Stores stores ps ∧
    (params.posonlyargs ++ params.args).head? = some ar ∧ ar.arg = "self" ∧ K.lookup cda = some ⟨ccl, cdd, .fields vs, ccs⟩ ∧ vs[2]? = some (.str file tf) ∧ ((prog.main.file : Str) == file) = true ∧ (q3.endLine == q4.line) = true ∧ K.lookup cc = some ⟨cl, cld, .cell (some (.ref C)), csl⟩ ∧
    scope.names.lookup ("super" : Str) = some .globalImplicit ∧ scope.names.lookup ("__class__" : Str) = some .free ∧ scope.names.lookup ("self" : Str) = some .local ∧ (∀ f ∈ ps, scope.names.lookup f = some .local) ∧ scope.kind = .function ∧ scope.isCoroutine = false ∧ scope.isGenerator = false ∧ (∀ x ∈ scope.names, x.2 ≠ .cell) ∧
    (("self" : Str) :: ps).Nodup ∧
    ∀ (s : Shared) (us : List Value), us.length = ps.length + 1 → BindsTo s (ksFn "__init__" qual params (.Expr (.Call (.Attribute (.Call (.Name "super" q1) [] [] q2) "__init__" q3) [.Constant (.str text) kk q0] [] q4) q5 :: stores) scope .none .none doc pm an (.ref cda) ct cc) ⟨us, []⟩ ((("self" : Str) :: ps).zip us)
theorem eval_mcall {o : Expr} {name : Str} {apos pos : Pos} {args : List Expr} {env : Env} (hline : (apos.endLine == pos.line) = true) (hform : methodCallForm (args.length + ([] : List Keyword).length) (backTo pos (starEach args env)) (backToKw pos (keywordEach [] env)) = true) :
    eval (.Call (.Attribute o name apos) args [] pos) env = (do
      let ov ← attributeBase o name env (eval o env)
      standAt apos.atName
      let (f, first) ← holding [ov] (getMethod ov name (do return (← importBound o env).getD true))
      callWith pos f first (backTo pos (starEach args env)) []) := by
  rw [arm_eval_Call]
  have hpos : methodCallPos true o env apos pos = pure pos := by unfold methodCallPos; simp [hline]
  unfold methodCall
  rw [hform, hpos]
  simp only [pure_bind]
  rfl
theorem str1_size (v : Value) : [v].length ≤ sizeLine := by
  rw [sizeLine_eq]
  exact (by decide : 1 ≤ 16777216)
theorem zip_rev_lookup : ∀ {ps : List Str} {us : List Value}, ps.Nodup → ∀ (i : Nat) (f : Str) (v : Value), ps[i]? = some f → us[i]? = some v → (ps.zip us).reverse.lookup f = some v
  | [], us, _, i, f, v, h, _ => by simp at h
  | p :: ps, [], _, i, f, v, _, h => by simp at h
  | p :: ps, u :: us, nd, i, f, v, h1, h2 => by
    rw [List.nodup_cons] at nd
    rw [List.zip_cons_cons, List.reverse_cons, List.lookup_append]
    cases i with
    | zero =>
      simp only [List.getElem?_cons_zero, Option.some.injEq] at h1 h2
      subst h1 h2
      have hn : (ps.zip us).reverse.lookup p = none := by
        rw [List.lookup_eq_none_iff]
        intro q hq
        have hq := List.mem_reverse.mp hq
        have := (List.of_mem_zip (show (q.1, q.2) ∈ ps.zip us from hq)).1
        simp only [beq_eq_false_iff_ne, ne_eq, bne_iff_ne, Bool.not_eq_true]
        exact fun e => nd.1 (by rw [e]; exact this)
      rw [hn]
      simp [List.lookup]
    | succ j =>
      rw [zip_rev_lookup nd.2 j f v (by simpa using h1) (by simpa using h2)]
      rfl
section
variable {prog : Program} {w : World} {A : Around} {R : Result → Shared → Prop} {K : Frag} {C fI x t0 : Addr} {ps : List Str} {hb : Heap} {g : Array GenState} {d : Drawn} {tk : Nat} {os : OsState} {mg : Str → Option Value}
/-- the bound ValueError.__init__ called -/
theorem bound_call {A : Around} {E : Value → Shared → Prop} {h : Heap} {u t : Addr} {rest : List Value} {Q : Value → Shared → Prop} {nm q : Str} {N : Addr} {bs bm : List Value} {hdct : Bool} {sn : List Str} {sub : List Value} {ab : Bool} {col : Option Bool} {dd : Option Addr} {k0 k1 k2 k3 k5 : Option Value}
    (hC : h.get? C = some (excClassObj nm q C N bs bm hdct sn sub ab col dd k0 k1 k2 k3 k5 "ValueError.__new__")) (hu : h.get? u = some (kxs_mw "ValueError.__init__" x)) (he : h.get? x = some (exR C t none)) (hz : rest.length ≤ sizeLine)
    (hq : ∀ h' t1, (∀ b o, b ≠ x → h.get? b = some o → h'.get? b = some o) → h'.get? x = some (exR C t1 none) → Q .none ⟨h', g, d, tk, os⟩) : wpAny (model prog w) A (call (.ref u) rest) Q E ⟨h, g, d, tk, os⟩ := by
  refine wpAny_call (codeAny_of_tree ?_)
  show wpAny _ A.in1 (callAny (.ref u) ⟨rest, []⟩) _ _ _
  simp only [callAny]
  refine wpAny_bind (wpAny_load hu ?_)
  simp only [kxs_mw, show (Value.type "method-wrapper" == Value.type "method" || Value.type "method-wrapper" == Value.type "builtin_function_or_method" || Value.type "method-wrapper" == Value.type "method-wrapper") = true by decide, if_true]
  refine KFB.if_so (by decide) ?_
  refine wpAny_bind (check_bound_init F.excBase_ValueError.toExcCallFacts hC he rfl ?_)
  refine wpAny_bind (wpAny_pure (wpAny_pure ?_))
  refine ⟨plainId_quiet F.excBase_ValueError.init.plain _, codeAny_builtin F.excBase_ValueError.initEntry ?_⟩
  exact exc_init_tree (cls := .ref C) (t0 := t) (dv := none) (c2 := .none) (c3 := .none) (b4 := .bool false) he hz fun h' k e _ => hq h' _ k e
theorem sx_init (T : SxTxt prog K C fI ps) {vs : List Value} (hl : vs.length = ps.length) (X : K.In hb) (hlim : hb.NoLimit) (G : hb.Ns mainGlobals mg) (hmg : mg "super" = none) (hblt : ∃ mb, hb.Ns builtinsNs mb ∧ ∀ x : Str, x ≠ "__name__" → mb x = bootBuiltins x)
    (hx : hb.get? x = some (excO C t0)) (hnx : K.lookup x = none) (hroom : A.depth < recursionLimit)
    (hq : ∀ (h' : Heap) (tk' : Nat) (t1 : Addr) (dv : Option Addr), (∀ b o, b ≠ x → hb.get? b = some o → h'.get? b = some o) → h'.get? x = some (exR C t1 dv) → Dct h' K x hb.objs.size hb.objs.size dv (ps.zip vs).reverse → (ps = [] → dv = none) → R (.ok (.ret .none)) ⟨h', g, d, tk', os⟩) :
    codeAny (model prog w) A (.call (.ref fI) ⟨.ref x :: vs, []⟩) R ⟨hb, g, d, tk, os⟩ := by
  obtain ⟨oc, od, doc, pm, an, cda, ct, osl, cc, qual, params, ar, text, kk, q0, q1, q2, q3, q4, q5, stores, scope, ccl, cdd, fvs, ccs, file, tf, cl, cld, csl, ho, hcd, hS, hp, har, hcode, hfv, hfile, hline, hcell, hks, hkc, hka, hkps, hkf, hco, hgen, hnc, nd, hbd⟩ := T.fn
  obtain ⟨nm, q, N, bs, bm, sn, sub, ab, col, dd, k0, k1, k2, k3, k5, hC, hbm⟩ := T.cls
  have hcl : clsIn K C = some { name := nm, bases := bs, mro := .ref C :: bm, ns := N, qualname := q, hasDict := true, slotNames := sn, subclasses := sub, abstract := ab, collection := col, hasDel := false } := by unfold clsIn; rw [hC] <;> rfl
  have hlen : (Value.ref x :: vs).length = ps.length + 1 := by rw [List.length_cons, hl]
  have hxs := Heap.lt_size hx
  refine ks_codeAny_call_defAt (binds := (("self" : Str) :: ps).zip (Value.ref x :: vs)) hroom (X _ _ ho) rfl hlim (codeRec_of X hcd) rfl (hbd _ _ hlen) hnc (fun y hy => ?_) (fun h₁ hns hk₁ => ?_) hco hgen hkf
  · have := (List.of_mem_zip (show (y.1, y.2) ∈ _ from hy)).1
    rcases List.mem_cons.mp this with e | e
    · rw [e]; exact hka
    · exact hkps _ e
  have hk1 : ∀ b o, hb.get? b = some o → h₁.get? b = some o := hk₁
  have hL : (hb.objs.size : Addr) ≠ x := Nat.ne_of_gt hxs
  have X1 : K.In h₁ := X.keeps hk1
  have hx1 := hk1 _ _ hx
  have hmself : ((("self" : Str) :: ps).zip (Value.ref x :: vs)).reverse.lookup ("self" : Str) = some (.ref x) := zip_rev_lookup nd 0 _ _ rfl rfl
  have hmf : ∀ (i : Nat) f v, ps[i]? = some f → vs[i]? = some v → ((("self" : Str) :: ps).zip (Value.ref x :: vs)).reverse.lookup f = some v := fun i f v e1 e2 => zip_rev_lookup nd (i + 1) f v e1 e2
  generalize hm : (fun y => ((("self" : Str) :: ps).zip (Value.ref x :: vs)).reverse.lookup y) = m at hns
  have hmself : m "self" = some (.ref x) := by rw [← hm]; exact hmself
  have hmf : ∀ (i : Nat) f v, ps[i]? = some f → vs[i]? = some v → m f = some v := fun i f v e1 e2 => by rw [← hm]; exact hmf i f v e1 e2
  obtain ⟨mb, hb1, hb2⟩ := hblt
  show wpAt _ _ _ (execs _ (ksEnv qual scope hb.objs.size fI (.ref cda) cc)) _ _ _
  refine ks_wpAt_execs_cons (ks_wpAt_Expr_any (ks_wpAt_MethodCall ?_ (eval_mcall hline (by rfl))) (by unfold interactive; simp [hkf]) (by rfl))
  obtain ⟨oD, hD1, hD2⟩ : ∃ oD : Obj, h₁.get? C = some oD ∧ ∃ cd, oD.data = .cls cd := ⟨_, X1 _ _ hC, _, rfl⟩
  obtain ⟨cdD, hD2⟩ := hD2
  refine ks_wpAt_super_base (env := ksEnv qual scope hb.objs.size fI (.ref cda) cc) hks hkc (by decide) rfl (X1 _ _ ho) rfl hp rfl (X1 _ _ hcode) rfl hfv hfile T.top ?_
  refine ks_loadName_global hkf hks (loadGlobal_builtin (env := ksEnv qual scope hb.objs.size fI (.ref cda) cc) (G.keeps hk1) hmg (hb1.keeps hk1) ((hb2 _ (by decide)).trans (by decide +kernel)) ⟨rfl, ?_⟩)
  refine wpAny_loadName_free hkf hkc rfl ⟨_, X1 _ _ hcell, rfl⟩ ?_
  refine wpAny_loadName_local (by exact hkf) (by rw [har]; exact hka) hns (by rw [har]; exact hmself) ?_
  refine ks_wpAny_isType_cls hD1 hD2 ⟨rfl, ?_⟩
  have subCC : Looks (model prog w) h₁ (isSubtype (.ref C) (.ref C)) true := by
    refine looks_mroIn X1 ?_
    unfold mroIn
    rw [hcl]
    simp
  refine ks_wpAny_call_super hD1 hD2 hx1 rfl (fun c e => by cases e) subCC fun h2 hso hk2 => ?_
  have hk02 : ∀ b o, hb.get? b = some o → h2.get? b = some o := fun b o e => hk2 b o (hk1 b o e)
  have X2 : K.In h2 := X1.keeps hk2
  have hx2 := hk2 _ _ hx1
  have hI : Looks (model prog w) h2 (isInstance (.ref x) (.type "ValueError")) true := (show W.InstAt h2 x (excO C t0) C none from ⟨hx2, rfl, rfl, trivial⟩).type.andThen (looks_subIn X2 T.veC)
  have hxC : x ≠ C := ks_ne X2 (show W.InstAt h2 x (excO C t0) C none from ⟨hx2, rfl, rfl, trivial⟩) hcl
  have hsup : alongIn K "__init__" (((Value.ref C :: bm).dropWhile (· != .ref C)).drop 1) = some (some (.builtin "ValueError.__init__")) := by
    have := T.sup
    unfold ks_superIn at this
    rw [hcl] at this
    exact this
  refine kxs_getMethod kxs_ValueError hso (looks_opaque X2 T.opq) (l₀ := .ref C :: bm) (fun A Q E s k q => wpAny_bind ((looks_clsIn X2 hcl) A _ E s k (wpAny_pure q))) rfl X2 hsup hI hxC (by decide) ?_
  have hu3 : (h2.push (kxs_mw "ValueError.__init__" x)).get? h2.objs.size = some (kxs_mw "ValueError.__init__" x) := Heap.get?_push_size _ rfl
  have hk3 : ∀ b o, h2.get? b = some o → (h2.push (kxs_mw "ValueError.__init__" x)).get? b = some o := fun b o e => Heap.get?_push_of_some _ e
  show wpAny _ _ (callWith _ (.ref h2.objs.size) [] _ []) _ _ _
  refine kxs_callWith (i := "ValueError.__init__") (x := x) (by rfl) ?_
  refine evalArgs_plain (spliced_cons (Constant_str (k := kk) (pos := q0) (spliced_nil ⟨hu3, ?_⟩)))
  have hC3 := hk3 _ _ (X2 _ _ hC)
  refine bound_call (t := t0) hC3 hu3 (hk3 _ _ hx2) (str1_size _) fun h5 t1 k5 x5 => ?_
  refine wpAt_of_wpAny ?_
  have k05 : ∀ b o, b ≠ x → hb.get? b = some o → h5.get? b = some o := fun b o e1 e2 => k5 b o e1 (hk3 b o (hk02 b o e2))
  have n5 : h5.Ns hb.objs.size m := by
    obtain ⟨oL, es, ep, e, r⟩ := hns
    exact ⟨oL, es, ep, k5 _ _ hL (hk3 _ _ (hk2 _ _ e)), r⟩
  have L5 : hb.objs.size < h5.objs.size := by
    obtain ⟨oL, es, ep, e, r⟩ := n5
    exact Heap.lt_size e
  refine stores_run (env := ksEnv qual scope hb.objs.size fI (.ref cda) cc) (hb := hb) (L := hb.objs.size) hkf rfl hka hmself hcl (show refsVE (.ref C :: bm) = true from hbm) rfl T.sa hnx hL hS (done := []) (dv := none) (kept_but X hnx k05) n5 hl hmf hkps T.noN x5 rfl (by have := T.few; rw [List.length_nil]; omega) L5 (Nat.le_of_lt L5) k05 fun h' tk' dv' k' x' d' z => ?_
  exact hq h' tk' t1 dv' k' x' (by rw [List.append_nil] at d'; exact d') z
/-- C(..) -/
theorem sx_made (T : SxTxt prog K C fI ps) {vs : List Value} (hl : vs.length = ps.length) (X : K.In hb) (hlim : hb.NoLimit) (G : hb.Ns mainGlobals mg) (hmg : mg "super" = none) (hblt : ∃ mb, hb.Ns builtinsNs mb ∧ ∀ x : Str, x ≠ "__name__" → mb x = bootBuiltins x) (hroom : A.depth + 1 < recursionLimit)
    (hq : ∀ (h' : Heap) (tk' : Nat) (e t1 : Addr) (dv : Option Addr), (∀ b o, hb.get? b = some o → h'.get? b = some o) → hb.objs.size ≤ e → h'.get? e = some (exR C t1 dv) → (match dv with | none => ps = [] | some dx => hb.objs.size ≤ dx ∧ dx ≠ e ∧ h'.Ns1 dx (fun y => (ps.zip vs).reverse.lookup y) ∧ ps ≠ []) → R (.ok (.ret (.ref e))) ⟨h', g, d, tk', os⟩) :
    codeAny (model prog w) A (.call (.ref C) ⟨vs, []⟩) R ⟨hb, g, d, tk, os⟩ := by
  obtain ⟨nm, q, N, bs, bm, sn, sub, ab, col, dd, k0, k1, k2, k3, k5, hC, hbm⟩ := T.cls
  have k : ∀ b o, hb.get? b = some o → ((hb.push (kdv_tup vs)).push (excO C hb.objs.size)).get? b = some o := fun b o e => Heap.get?_push_of_some _ (Heap.get?_push_of_some _ e)
  have hget : ((hb.push (kdv_tup vs)).push (excO C hb.objs.size)).get? (hb.objs.size + 1) = some (excO C hb.objs.size) := by heap_get
  have hnx : K.lookup (hb.objs.size + 1) = none := by
    cases e : K.lookup (hb.objs.size + 1) with
    | none => rfl
    | some o =>
      have z : hb.get? (hb.objs.size + 1) = some o := X _ _ e
      exact absurd (Nat.lt_of_succ_lt (Heap.lt_size z)) (Nat.lt_irrefl _)
  have hsz : vs.length ≤ sizeLine := by
    have := T.few
    rw [hl, sizeLine_eq]
    omega
  refine call_own F.excBase_ValueError (fun X => refsVE_contains X bm hbm) (X _ _ hC) (looks_findIn X T.iC) (fun self => bind_fn X self T.tC) hsz ?_
  refine sx_init (hb := (hb.push (kdv_tup vs)).push (excO C hb.objs.size)) T hl (X.keeps k) (hlim.keeps k) (G.keeps k) hmg (by
    obtain ⟨mb, h1, h2⟩ := hblt
    exact ⟨mb, h1.keeps k, h2⟩) hget hnx (by show A.depth + 1 < recursionLimit; exact hroom) fun h' tk' t1 dv k' hx hD hn => ?_
  have old : ∀ b o, hb.get? b = some o → h'.get? b = some o := fun b o e => k' b o (Nat.ne_of_lt (Nat.lt_succ_of_lt (Heap.lt_size e))) (k b o e)
  refine ⟨rfl, hq h' tk' (hb.objs.size + 1) t1 dv old (Nat.le_succ _) hx ?_⟩
  cases dv with
  | none =>
    have hD : (ps.zip vs).reverse = [] := hD
    have hD := List.reverse_eq_nil_iff.mp hD
    rcases List.zip_eq_nil_iff.mp hD with e | e
    · exact e
    · rw [e] at hl
      exact List.eq_nil_of_length_eq_zero hl.symm
  | some dx =>
    obtain ⟨hns, kd, dne, dL, dn⟩ := hD
    have z : hb.objs.size ≤ dx := by
      refine Nat.le_trans ?_ dn
      rw [Heap.size_push, Heap.size_push]
      omega
    exact ⟨z, dne, hns, fun e => by cases hn e⟩
end
end SxX
end PySem
end
section
set_option Elab.async false
set_option linter.all false
set_option maxRecDepth 100000
set_option maxHeartbeats 2000000
set_option autoImplicit true
namespace L2
open PySem PySem.Spec PyProof.Rows PySem.SxX
/-- a made own exception: its fields, the last first -/
def tSx (C : Addr) (ps : List Str) (vs : List V) : Hp → XK → Prop := fun H Q => vs.length = ps.length ∧ (ps = [] → Q (.ref C) none H) ∧ (ps ≠ [] → ∀ d, H d = none → Q (.ref C) (some d) (upd H d (.xd (ps.zip vs).reverse)))
theorem vals_zip : ∀ {ps : List Str} {vs : List V} {us : List Value}, Vals vs us → ∀ f, RelO ((ps.zip vs).lookup f) ((ps.zip us).lookup f)
  | [], _, _, _, f => trivial
  | p :: ps, [], _, .nil, f => trivial
  | p :: ps, v :: vs, u :: us, .cons r t, f => by
    rw [List.zip_cons_cons, List.zip_cons_cons, lookup_put, lookup_cons]
    by_cases e : f = p
    · rw [if_pos e, if_pos e]; exact r
    · rw [if_neg e, if_neg e]; exact vals_zip t f
theorem relO_app {f : Str} {l l' : List (Str × V)} {m m' : List (Str × Value)} (h1 : RelO (l.lookup f) (m.lookup f)) (h2 : RelO (l'.lookup f) (m'.lookup f)) : RelO ((l ++ l').lookup f) ((m ++ m').lookup f) := by
  rw [List.lookup_append, List.lookup_append]
  cases e1 : l.lookup f with
  | none =>
    cases e2 : m.lookup f with
    | none => exact h2
    | some u => rw [e1, e2] at h1; exact h1.elim
  | some v =>
    cases e2 : m.lookup f with
    | none => rw [e1, e2] at h1; exact h1.elim
    | some u => rw [e1, e2] at h1; exact h1
theorem relO_one {f p : Str} {v : V} {u : Value} (r : RelV v u) : RelO (List.lookup f [(p, v)]) (List.lookup f [(p, u)]) := by
  rw [lookup_put, lookup_cons]
  by_cases e : f = p
  · rw [if_pos e, if_pos e]; exact r
  · rw [if_neg e, if_neg e]; trivial
theorem vals_rev : ∀ {ps : List Str} {vs : List V} {us : List Value}, Vals vs us → ∀ f, RelO ((ps.zip vs).reverse.lookup f) ((ps.zip us).reverse.lookup f)
  | [], _, _, _, f => trivial
  | p :: ps, [], _, .nil, f => trivial
  | p :: ps, v :: vs, u :: us, .cons r t, f => by
    rw [List.zip_cons_cons, List.zip_cons_cons, List.reverse_cons, List.reverse_cons]
    exact relO_app (vals_rev t f) (relO_one r)
section
variable {X : Cx} {C fI : Addr} {ps : List Str} {x : Str} {p pos : Pos} {k : Nat}
theorem sx_mkP {pins : List (Addr × Obj)} {σ : St} {H1 : Hp} {Q : XK} {hp : Heap} {g : Array GenState} {dr : Drawn} {tk : Nat} {os : OsState} {vs : List V} {us : List Value} (T : SxTxt X.prog X.K C fI ps) (gS : X.mg "super" = none) (hr : Room k X.A) (I1 : Inv X pins σ H1 ⟨hp, g, dr, tk, os⟩) (r : Vals vs us) (q : tSx C ps vs H1 Q) :
    wpAny (model X.prog X.w) X.A (call (.ref C) us) (MkP X pins σ Q) X.xe ⟨hp, g, dr, tk, os⟩ := by
  have hlim := I1.nolimit
  obtain ⟨hl, q0, q1⟩ := q
  have hlu : us.length = ps.length := by rw [← r.length, hl]
  refine wpAny_call (sx_made T hlu I1.kIn hlim (I1.mod.glob.keeps I1.bk) gS (by
    obtain ⟨mb, h1, h2⟩ := I1.mod.blt
    exact ⟨mb, h1.keeps I1.bk, h2⟩) (by have := hr.dp; omega) fun h' tk' e t1 dv keep new hoe hD => ?_)
  show MkP X pins σ Q (.ref e) ⟨h', g, dr, tk', os⟩
  obtain ⟨G', g1, g2⟩ := restrict h' fun b => decide (b ≠ e)
  have gk : ∀ b, b ≠ e → G'.get? b = h'.get? b := fun b hb => g1 b (decide_eq_true hb)
  have ge : G'.get? e = none := g2 e (by simp)
  have old : ∀ b o, hp.get? b = some o → G'.get? b = some o := fun b o q => (gk b (Nat.ne_of_lt (Nat.lt_of_lt_of_le (Heap.lt_size q) new))).trans (keep b o q)
  have back : ∀ b o, G'.get? b = some o → h'.get? b = some o := fun b o q => by
    by_cases hb : b = e
    · rw [hb, ge] at q; cases q
    · exact (gk b hb).symm.trans q
  cases dv with
  | none =>
    have e0 : ps = [] := hD
    have J : Inv X pins σ H1 ⟨G', g, dr, tk', os⟩ := I1.kept old
    exact ⟨e, _, _, ⟨G', g, dr, tk', os⟩, H1, .ref C, none, rfl, J, back, ge, hoe, ⟨rfl, rfl⟩, rfl, rfl, I1.hok.fresh new, rfl, I1.bare, raises_own T.exC T.tyC, q0 e0⟩
  | some d =>
    obtain ⟨dbig, dne, hns, ne⟩ := hD
    have ob : ObjOk X.prog X.w (upd H1 d (.xd (ps.zip vs).reverse)) G' d (.xd (ps.zip vs).reverse) := ⟨_, hns.at (fun o q => (gk d dne).trans q), fun f => vals_rev r f⟩
    have J : Inv X pins σ (upd H1 d (.xd (ps.zip vs).reverse)) ⟨G', g, dr, tk', os⟩ := I1.laid (t' := tk') old dbig ob
    exact ⟨e, _, _, ⟨G', g, dr, tk', os⟩, _, .ref C, some d, rfl, J, back, ge, hoe, ⟨rfl, rfl⟩, rfl, rfl, by rw [upd_ne (Ne.symm dne)]; exact I1.hok.fresh new, rfl, I1.bare, raises_own T.exC T.tyC, q1 ne d (I1.hok.fresh dbig)⟩
def tMkSx (C : Addr) (ps : List Str) (ta : TA) : St → Hp → XK → Prop := fun σ H Q => ta σ H fun vs H1 => tSx C ps vs H1 Q
theorem pmk_sx {e : Expr} {es : List Expr} {ta : TA} (T : SxTxt X.prog X.K C fI ps) (gC : X.mg x = some (.ref C)) (gS : X.mg "super" = none) (hr : Room k X.A) (ha : PA X (e :: es) ta) (hg : Gl X x := by rfl) (hdb : (x == ("__debug__" : Str)) = false := by decide)
    (he : starEach (e :: es) X.env = (false, eval e X.env) :: starEach es X.env := by rfl) (hpl : (backTo pos (starEach es X.env)).any (·.1) = false := by rfl) :
    PMk X (.Call (.Name x p) (e :: es) [] pos) (tMkSx C ps ta) := by
  intro pins s σ H Q I h
  refine wpAny_Call_Name_kw (ld_glob I hg gC ?_ hdb)
  refine PySem.W.callWith_K (h₀ := X.base) I.ok.mod.kin T.kC (thn (ha.run pos pins s σ H _ I h) fun us s1 hh => ?_) he hpl
  obtain ⟨vs, H1, I1, r1, q1⟩ := hh
  refine ⟨I1.kIn, ?_⟩
  obtain ⟨hp, g, dr, tk, os⟩ := s1
  exact sx_mkP T gS hr I1 r1 q1
theorem pmk_sx0 (T : SxTxt X.prog X.K C fI ps) (gC : X.mg x = some (.ref C)) (gS : X.mg "super" = none) (hr : Room k X.A) (hg : Gl X x := by rfl) (hdb : (x == ("__debug__" : Str)) = false := by decide) :
    PMk X (.Call (.Name x p) [] [] pos) (fun _ H Q => tSx C ps [] H Q) := by
  intro pins s σ H Q I h
  refine wpAny_Call_Name_kw (ld_glob I hg gC ?_ hdb)
  refine PySem.W.callWith_K0 I.kIn T.kC ?_
  obtain ⟨hp, g, dr, tk, os⟩ := s
  exact sx_mkP T gS hr I .nil h
end
end L2
end
section
set_option Elab.async false
set_option linter.all false
set_option maxRecDepth 100000
set_option maxHeartbeats 4000000
set_option autoImplicit true
/-! typed exceptions -/
namespace L3
open PySem PySem.Spec PyProof.Rows L2 PySem.SxX
/-- an exception of the class at C with these fields -/
def exC (C : Addr) (ps : List Str) (pds : List Pd) (cls : Value) (d : Option Addr) (H : Hp) : Prop :=
  cls = .ref C ∧ ((ps = [] ∧ d = none) ∨ (ps ≠ [] ∧ ∃ dd vs, d = some dd ∧ H dd = some (.xd (ps.zip vs).reverse) ∧ Paired (fun p v => Pd.pr p H v) pds vs))
theorem exC_mono {C : Addr} {ps : List Str} {pds : List Pd} {cls : Value} {d : Option Addr} {H H' : Hp} (f : Fzs H H') (h : exC C ps pds cls d H) : exC C ps pds cls d H' := by
  obtain ⟨e, h | ⟨ne, dd, vs, ed, hd, p⟩⟩ := h
  · exact ⟨e, .inl h⟩
  · exact ⟨e, .inr ⟨ne, dd, vs, ed, f _ _ trivial hd, paired_mono (fun p v q => p.mono f q) p⟩⟩
/-- the kinds of errors that are told -/
structure Xk (ε : Type) where
  ok : ε → Value → Option Addr → Hp → Prop
  mono : ∀ {e : ε} {cls : Value} {d : Option Addr} {H H' : Hp}, Fzs H H' → ok e cls d H → ok e cls d H'
/-- where an exception goes -/
def xOut {ε : Type} (Kx : Xk ε) (F : Fm) (Δx : Δs) (Nx : SS → Hp → Prop) (Wx : WX) (e : ε) (H : Hp) : Prop := ∀ cls d σ H', Fzs H H' → Hk F Δx H' → Nx σ H' → Kx.ok e cls d H' → Wx cls d σ H'
theorem xOut.mono {ε : Type} {Kx : Xk ε} {F : Fm} {Δx : Δs} {Nx : SS → Hp → Prop} {Wx : WX} {e : ε} {H H1 : Hp} (h : xOut Kx F Δx Nx Wx e H) (f : Fzs H H1) : xOut Kx F Δx Nx Wx e H1 := fun cls d σ H' f' => h cls d σ H' (f.trans f')
/-- a terminal that may be an error -/
def fX {ε τ : Type} (Kx : Xk ε) (Tf : Fn τ) (F : Fm) (Δx : Δs) (Nx : SS → Hp → Prop) (Wx : WX) : Fn (Except ε τ) := ⟨fun H g D => match g with | .ok t => Tf.fin H t D | .error e => xOut Kx F Δx Nx Wx e H, fun {H H' g D} h f => by
  cases g with
  | ok t => exact Tf.mono h f
  | error e => exact xOut.mono h f⟩
theorem ins_X {ε τ : Type} {Kx : Xk ε} {Tf : Fn τ} {F : Fm} {Δx : Δs} {Nx : SS → Hp → Prop} {Wx : WX} (h : Ins Tf) : Ins (fX Kx Tf F Δx Nx Wx) := fun H g D n q => by
  cases g with
  | ok t => exact h H t D n q
  | error e => exact q
/-- N ends so on errors -/
def Ex {ε γ : Type} (N : Fn γ) (ιx : ε → γ) (Kx : Xk ε) (F : Fm) (Δx : Δs) (Nx : SS → Hp → Prop) (Wx : WX) : Prop := ∀ H e D, N.fin H (ιx e) D → xOut Kx F Δx Nx Wx e H
theorem ex_X {ε τ : Type} {Kx : Xk ε} {Tf : Fn τ} {F : Fm} {Δx : Δs} {Nx : SS → Hp → Prop} {Wx : WX} : Ex (fX Kx Tf F Δx Nx Wx) (Except.error (α := τ)) Kx F Δx Nx Wx := fun _ _ _ h => h
theorem ex_B {ε S τ : Type} {Kx : Xk ε} {Tf : Fn τ} {ιx : ε → τ} {C : S → Cxt} {F : Fm} {Δx : Δs} {Nx : SS → Hp → Prop} {Wx : WX} (h : Ex Tf ιx Kx F Δx Nx Wx) : Ex (fB F C Tf) (fun e => Bo.tm (ιx e)) Kx F Δx Nx Wx := fun H e D q => h H e D q
section
variable {X : Cx} {W : Bool} {F : Fm} {Γ : Gm} {Δ : Δs} {γ ε : Type} {Kx : Xk ε} {N : Fn γ} {ιx : ε → γ} {Δx : Δs} {Nx : SS → Hp → Prop} {Wx : WX} {k : Nat} {C fI : Addr} {ps : List Str} {x : Str} {p pos pos2 : Pos}
theorem paired_lenP {α β : Type} {P : α → β → Prop} {l₁ : List α} {l₂ : List β} (h : Paired P l₁ l₂) : l₁.length = l₂.length := paired_len h
/-- raise C(..) -/
theorem s_raise {e : Expr} {es : List Expr} {β : Type} {T : Option γ} {pds : β → List Pd} {er : β → ε} {Δ' : β → Δs} (tk : Takes X Wx) (hN : Ex N ιx Kx F Δx Nx Wx) (Tx : SxTxt X.prog X.K C fI ps) (gC : X.mg x = some (.ref C)) (gS : X.mg "super" = none) (hr : Room k X.A)
    (ha : PA X (e :: es) (tAr true F Γ Δ T (fun b => some (ιx (er b))) pds Δ')) (hx : ∀ b cls d H, exC C ps (pds b) cls d H → Kx.ok (er b) cls d H) (hl : ∀ b, (pds b).length = ps.length) (ne : ps ≠ []) (hΔ : ∀ b, Δx.Sublist (Δ' b)) (hNx : ∀ σ H, Nm Γ σ H → Nx σ H) (hc : X.calm = true := by rfl) (hg : Gl X x := by rfl) (hdb : (x == ("__debug__" : Str)) = false := by decide)
    (he : starEach (e :: es) X.env = (false, eval e X.env) :: starEach es X.env := by rfl) (hpl : (backTo pos (starEach es X.env)).any (·.1) = false := by rfl) :
    PSs X [.Raise (some (.Call (.Name x p) (e :: es) [] pos)) none pos2] (tS F Γ Δ N T) :=
  (pss_one (ps_raise hc tk (pmk_sx Tx gC gS hr ha hg hdb he hpl))).wk fun D σ H ⟨ok, g, e, f⟩ => ⟨ok, g, e, fun b vs H1 kb st ok1 pv => by
    have eg : ιx (er b) = g := Option.some.inj kb
    rw [← eg] at f
    refine ⟨by rw [← paired_len pv, hl], fun z => absurd z ne, fun _ d nd => ?_⟩
    have gr : Gr H1 (upd H1 d (.xd (ps.zip vs).reverse)) := Gr.new nd
    exact hN _ _ D f _ _ σ _ (st.fz.trans gr.fzs) ((ok1.hk.gr gr).less (hΔ b)) (hNx _ _ (ok1.nm.mono gr.fzs)) (hx b _ _ _ ⟨rfl, .inr ⟨ne, d, vs, rfl, upd_same, paired_mono (fun p v q => p.mono gr.fzs q) pv⟩⟩)⟩
/-- raise C() -/
theorem s_raise0 {T : Option γ} {er : ε} (tk : Takes X Wx) (hN : Ex N ιx Kx F Δx Nx Wx) (Tx : SxTxt X.prog X.K C fI []) (gC : X.mg x = some (.ref C)) (gS : X.mg "super" = none) (hr : Room k X.A) (hT : T = some (ιx er))
    (hx : ∀ cls d H, exC C [] [] cls d H → Kx.ok er cls d H) (hΔ : Δx.Sublist Δ) (hNx : ∀ σ H, Nm Γ σ H → Nx σ H) (hc : X.calm = true := by rfl) (hg : Gl X x := by rfl) (hdb : (x == ("__debug__" : Str)) = false := by decide) :
    PSs X [.Raise (some (.Call (.Name x p) [] [] pos)) none pos2] (tS F Γ Δ N T) :=
  (pss_one (ps_raise hc tk (pmk_sx0 Tx gC gS hr hg hdb))).wk fun D σ H ⟨ok, g, e, f⟩ => by
    have eg : ιx er = g := Option.some.inj (hT.symm.trans e)
    rw [← eg] at f
    exact ⟨rfl, fun _ => hN _ _ D f _ _ σ H (Fzs.refl H) (ok.hk.less hΔ) (hNx _ _ ok.nm) (hx _ _ _ ⟨rfl, .inl ⟨rfl, rfl⟩⟩), fun z => absurd rfl z⟩
/-! ### calls of what may raise -/
/-- an expression that may raise -/
def tEX {β : Type} (W : Bool) (F : Fm) (Γ : Gm) (Δ : Δs) (T : Option γ) (k : β → Option γ) (E : β → Pd) (Δ' : β → Δs) (ιx : ε → γ) (Kx : Xk ε) (Wx : WX) : TE := fun σ H Q =>
  Ok F Γ Δ σ H ∧ ∃ g, T = some g ∧ (∀ b v H', k b = some g → St W H H' → Ok F Γ (Δ' b) σ H' → (E b).pr H' v → Q v H') ∧ ∀ e, g = ιx e → ∀ cls d H', St W H H' → Ok F Γ Δ σ H' → Kx.ok e cls d H' → Wx cls d σ H'
def tOX {β : Type} (W : Bool) (F : Fm) (Γ : Gm) (Δ : Δs) (T : Option γ) (k : β → Option γ) (E : β → Od) (Δ' : β → Δs) (ιx : ε → γ) (Kx : Xk ε) (Wx : WX) : TE := fun σ H Q =>
  Ok F Γ Δ σ H ∧ ∃ g, T = some g ∧ (∀ b v H', k b = some g → St W H H' → OkN W F Γ H v (E b) (Δ' b) σ H' → Q v H') ∧ ∀ e, g = ιx e → ∀ cls d H', St W H H' → Ok F Γ Δ σ H' → Kx.ok e cls d H' → Wx cls d σ H'
def xE {ε : Type} (Kx : Xk ε) (e : ε) (H : Hp) (E : XK) : Prop := ∀ cls d H', Hk ⟨H, []⟩ [] H' → Kx.ok e cls d H' → E cls d H'
/-- what a def promises whose parameters are all frozen, and that may raise -/
def SpXf {α ρ : Type} (A : α → List Pd) (Mf : α → Option (Except ε ρ)) (Rp : ρ → Pd) (Kx : Xk ε) : Sp := fun vs H Q E => ∃ a : α, Paired (fun p v => Pd.pr p H v) (A a) vs ∧ ∃ g, Mf a = some g ∧ match g with | .ok r => RF ⟨H, []⟩ (fun _ => []) Rp r Q | .error e => xE Kx e H E
def SpXo {α ρ : Type} (A : α → List Pd) (Mf : α → Option (Except ε ρ)) (Ro : ρ → Od) (Kx : Xk ε) : Sp := fun vs H Q E => ∃ a : α, Paired (fun p v => Pd.pr p H v) (A a) vs ∧ ∃ g, Mf a = some g ∧ match g with | .ok r => RO ⟨H, []⟩ (fun _ => []) Ro r Q | .error e => xE Kx e H E
def wE (E : XK) : WX := fun cls d _ H => E cls d H
theorem fn_Xf {P : Program} {w : World} {K : PySem.W.Frag} {mg : Str → Option Value} {base : Heap} {x qual : Str} {params : Arguments} {body : List Stmt} {scope : Scope} {dvs : List V} {kws : List (Str × V)} {f : Addr} {fd : FuncData} {Nn ps : List Str} {k n : Nat} {α ρ : Type} {A : α → List Pd} {Mf : α → Option (Except ε ρ)} {Rp : ρ → Pd}
    (FD : FunD K x qual params body scope dvs kws f fd) (S : FnScope Nn ps scope) (hn : ∀ a, (A a).length = n) (hl : n = ps.length)
    (hb : ∀ (cdv : Value) (Ar : Around) (outer : List Env) (s : Shared) (H : Hp) (E : XK) (hr : Room k (Ar.deeper (envOfC qual scope s.heap.objs.size f cdv))) (a : α), Takes (cxOf (L2.CX P w) P w K mg base Nn qual scope f cdv Ar outer s H E) (wE E) → PSs (cxOf (L2.CX P w) P w K mg base Nn qual scope f cdv Ar outer s H E) body
      (tS ⟨H, []⟩ ((A a).map some ++ List.replicate (Nn.length - n) none) [] (fX Kx (fF (RF ⟨H, []⟩ (fun _ => []) Rp)) ⟨H, []⟩ [] (fun _ _ => True) (wE E)) (Mf a))) : FnOk P w K mg base (L2.CX P w) (k + 1) f fd ps (SpXf A Mf Rp Kx) := by
  refine FD.ok S (fun vs H Q E h => ?_) (fun cdv Ar outer s H vs Q E hr h => ?_)
  · obtain ⟨a, pv, _⟩ := h
    rw [← paired_len pv, hn, hl]
  · obtain ⟨a, pv, g, hM, fin⟩ := h
    refine ⟨_, hb cdv Ar outer s H E hr a (takes_of rfl rfl rfl rfl), ok_start (Δ := []) (by rw [← paired_len pv, hn]) pv (fun _ h => nomatch h) List.nodup_nil (fun _ _ h => nomatch h), g, hM, ?_⟩
    cases g with
    | ok r => exact fin
    | error e => exact fun cls d σ H' _ hk _ q => fin cls d H' hk q
theorem fn_Xo {P : Program} {w : World} {K : PySem.W.Frag} {mg : Str → Option Value} {base : Heap} {x qual : Str} {params : Arguments} {body : List Stmt} {scope : Scope} {dvs : List V} {kws : List (Str × V)} {f : Addr} {fd : FuncData} {Nn ps : List Str} {k n : Nat} {α ρ : Type} {A : α → List Pd} {Mf : α → Option (Except ε ρ)} {Ro : ρ → Od}
    (FD : FunD K x qual params body scope dvs kws f fd) (S : FnScope Nn ps scope) (hn : ∀ a, (A a).length = n) (hl : n = ps.length)
    (hb : ∀ (cdv : Value) (Ar : Around) (outer : List Env) (s : Shared) (H : Hp) (E : XK) (hr : Room k (Ar.deeper (envOfC qual scope s.heap.objs.size f cdv))) (a : α), Takes (cxOf (L2.CX P w) P w K mg base Nn qual scope f cdv Ar outer s H E) (wE E) → PSs (cxOf (L2.CX P w) P w K mg base Nn qual scope f cdv Ar outer s H E) body
      (tS ⟨H, []⟩ ((A a).map some ++ List.replicate (Nn.length - n) none) [] (fX Kx (fF (RO ⟨H, []⟩ (fun _ => []) Ro)) ⟨H, []⟩ [] (fun _ _ => True) (wE E)) (Mf a))) : FnOk P w K mg base (L2.CX P w) (k + 1) f fd ps (SpXo A Mf Ro Kx) := by
  refine FD.ok S (fun vs H Q E h => ?_) (fun cdv Ar outer s H vs Q E hr h => ?_)
  · obtain ⟨a, pv, _⟩ := h
    rw [← paired_len pv, hn, hl]
  · obtain ⟨a, pv, g, hM, fin⟩ := h
    refine ⟨_, hb cdv Ar outer s H E hr a (takes_of rfl rfl rfl rfl), ok_start (Δ := []) (by rw [← paired_len pv, hn]) pv (fun _ h => nomatch h) List.nodup_nil (fun _ _ h => nomatch h), g, hM, ?_⟩
    cases g with
    | ok r => exact fin
    | error e => exact fun cls d σ H' _ hk _ q => fin cls d H' hk q
/-- the result of what does not raise -/
def okx {ε ρ : Type} : Except ε ρ → Option ρ
  | .ok r => some r
  | .error _ => none
/-- the rest behind what may raise -/
def xK {ε ρ γ : Type} (ιx : ε → γ) (k : ρ → Option γ) : Except ε ρ → Option γ
  | .ok r => k r
  | .error e => some (ιx e)
section
variable {f : Addr} {fd : FuncData} {kk : Nat} {α ρ β : Type} {A : α → List Pd} {Mf : α → Option (Except ε ρ)} {xs : β → α} {T : Option γ} {e : Expr} {es : List Expr}
theorem x_Xf {Rp : ρ → Pd} {kc : β × ρ → Option γ} (G : FnOk X.prog X.w X.K X.mg X.base (L2.CX X.prog X.w) kk f fd ps (SpXf A Mf Rp Kx)) (tk : Takes X Wx) (hr : Room kk X.A) (hm : X.mg x = some (.ref f)) (hk : PySem.W.keepIn X.K (.ref f) = true) (hb : Binds X.K fd ps [])
    (ha : PA X (e :: es) (tAr W F Γ Δ T (fun b => (Mf (xs b)).bind (xK ιx fun r => kc (b, r))) (fun b => A (xs b)) fun _ => Δ)) (hg : Gl X x := by rfl) (hdb : (x == ("__debug__" : Str)) = false := by decide)
    (he : starEach (e :: es) X.env = (false, eval e X.env) :: starEach es X.env := by rfl) (hpl : (backTo pos (starEach es X.env)).any (·.1) = false := by rfl) :
    PE X (.Call (.Name x p) (e :: es) [] pos) (tEX W F Γ Δ T kc (fun b => Rp b.2) (fun _ => Δ) ιx Kx Wx) :=
  (pe_callS G hr hg hm hk hb (fun σ => passAt tk σ) ha hdb he hpl).wk fun σ H Q ⟨ok, g, e, q, qx⟩ => ⟨ok, g, e, fun b vs H1 kb st ok1 pv => by
    obtain ⟨w, ew, kw⟩ := bind_some kb
    refine ⟨xs b, pv, w, ew, ?_⟩
    cases w with
    | ok r =>
      intro v H' hk hv
      obtain ⟨ok', st'⟩ := call_f0 (W := W) ok1 hk
      exact q (b, r) v H' kw (st.trans st') ok' hv
    | error er =>
      intro cls d H' hk hx
      obtain ⟨ok', st'⟩ := call_f0 (W := W) ok1 hk
      exact qx er (Option.some.inj kw).symm cls d H' (st.trans st') ok' hx⟩
theorem x_Xo {Ro : ρ → Od} {kc : β × ρ → Option γ} (G : FnOk X.prog X.w X.K X.mg X.base (L2.CX X.prog X.w) kk f fd ps (SpXo A Mf Ro Kx)) (tk : Takes X Wx) (hr : Room kk X.A) (hm : X.mg x = some (.ref f)) (hk : PySem.W.keepIn X.K (.ref f) = true) (hb : Binds X.K fd ps [])
    (ha : PA X (e :: es) (tAr W F Γ Δ T (fun b => (Mf (xs b)).bind (xK ιx fun r => kc (b, r))) (fun b => A (xs b)) fun _ => Δ)) (hg : Gl X x := by rfl) (hdb : (x == ("__debug__" : Str)) = false := by decide)
    (he : starEach (e :: es) X.env = (false, eval e X.env) :: starEach es X.env := by rfl) (hpl : (backTo pos (starEach es X.env)).any (·.1) = false := by rfl) :
    PE X (.Call (.Name x p) (e :: es) [] pos) (tOX W F Γ Δ T kc (fun b => Ro b.2) (fun _ => Δ) ιx Kx Wx) :=
  (pe_callS G hr hg hm hk hb (fun σ => passAt tk σ) ha hdb he hpl).wk fun σ H Q ⟨ok, g, e, q, qx⟩ => ⟨ok, g, e, fun b vs H1 kb st ok1 pv => by
    obtain ⟨w, ew, kw⟩ := bind_some kb
    refine ⟨xs b, pv, w, ew, ?_⟩
    cases w with
    | ok r =>
      intro v H' hk
      obtain ⟨ok', st'⟩ := call_o0 (W := W) ok1 hk
      exact q (b, r) v H' kw (st.trans st') (ok'.since st)
    | error er =>
      intro cls d H' hk hx
      obtain ⟨ok', st'⟩ := call_f0 (W := W) ok1 hk
      exact qx er (Option.some.inj kw).symm cls d H' (st.trans st') ok' hx⟩
theorem takes_no : Takes X (fun _ _ _ _ => False) := fun _ _ ⟨_, _, _, _, _, _, _, _, _, _, _, _, _, _, _, _, w⟩ => w.elim
theorem pass_no : Passes (L2.CX X.prog X.w) X (fun _ _ _ => False) := passes_call takes_no fun _ _ _ _ h => h
/-- where it does not raise -/
theorem x_Zf {Rp : ρ → Pd} {kc : β × ρ → Option γ} {Δ1 : β → Δs} (G : FnOk X.prog X.w X.K X.mg X.base (L2.CX X.prog X.w) kk f fd ps (SpXf A Mf Rp Kx)) (hr : Room kk X.A) (hm : X.mg x = some (.ref f)) (hk : PySem.W.keepIn X.K (.ref f) = true) (hb : Binds X.K fd ps [])
    (ha : PA X (e :: es) (tAr W F Γ Δ T (fun b => ((Mf (xs b)).bind okx).bind fun r => kc (b, r)) (fun b => A (xs b)) Δ1)) (hg : Gl X x := by rfl) (hdb : (x == ("__debug__" : Str)) = false := by decide)
    (he : starEach (e :: es) X.env = (false, eval e X.env) :: starEach es X.env := by rfl) (hpl : (backTo pos (starEach es X.env)).any (·.1) = false := by rfl) :
    PE X (.Call (.Name x p) (e :: es) [] pos) (tE W F Γ Δ T kc (fun b => Rp b.2) (fun b => Δ1 b.1)) :=
  (pe_call G hr hg hm hk hb .nil pass_no ha hdb he hpl).wk fun σ H Q ⟨ok, g, e, q⟩ => ⟨ok, g, e, fun b vs H1 kb st ok1 pv => by
    obtain ⟨r, er, kr⟩ := bind_some kb
    obtain ⟨w, ew, kw⟩ := bind_some er
    rw [List.append_nil]
    refine ⟨xs b, pv, w, ew, ?_⟩
    cases w with
    | ok r' =>
      cases kw
      intro v H' hk hv
      obtain ⟨ok', st'⟩ := call_f0 (W := W) ok1 hk
      exact q (b, _) v H' kr (st.trans st') ok' hv
    | error er => cases kw⟩
theorem x_Zo {Ro : ρ → Od} {kc : β × ρ → Option γ} {Δ1 : β → Δs} (G : FnOk X.prog X.w X.K X.mg X.base (L2.CX X.prog X.w) kk f fd ps (SpXo A Mf Ro Kx)) (hr : Room kk X.A) (hm : X.mg x = some (.ref f)) (hk : PySem.W.keepIn X.K (.ref f) = true) (hb : Binds X.K fd ps [])
    (ha : PA X (e :: es) (tAr W F Γ Δ T (fun b => ((Mf (xs b)).bind okx).bind fun r => kc (b, r)) (fun b => A (xs b)) Δ1)) (hg : Gl X x := by rfl) (hdb : (x == ("__debug__" : Str)) = false := by decide)
    (he : starEach (e :: es) X.env = (false, eval e X.env) :: starEach es X.env := by rfl) (hpl : (backTo pos (starEach es X.env)).any (·.1) = false := by rfl) :
    PE X (.Call (.Name x p) (e :: es) [] pos) (tO W F Γ Δ T kc (fun b => Ro b.2) (fun b => Δ1 b.1)) :=
  (pe_call G hr hg hm hk hb .nil pass_no ha hdb he hpl).wk fun σ H Q ⟨ok, g, e, q⟩ => ⟨ok, g, e, fun b vs H1 kb st ok1 pv => by
    obtain ⟨r, er, kr⟩ := bind_some kb
    obtain ⟨w, ew, kw⟩ := bind_some er
    rw [List.append_nil]
    refine ⟨xs b, pv, w, ew, ?_⟩
    cases w with
    | ok r' =>
      cases kw
      intro v H' hk
      obtain ⟨ok', st'⟩ := call_o0 (W := W) ok1 hk
      exact q (b, _) v H' kr (st.trans st') (ok'.since st)
    | error er => cases kw⟩
end
/-! ### statements -/
section
variable {rest : List Stmt} {β : Type} {T : Option γ} {kc : β → Option γ} {Δ' : β → Δs} {e : Expr}
theorem s_exprX {E : β → Pd} (he : PE X e (tEX true F Γ Δ T kc E Δ' ιx Kx Wx)) (hN : Ex N ιx Kx F Δx Nx Wx) (hΔ : Δx.Sublist Δ) (hNx : ∀ σ H, Nm Γ σ H → Nx σ H) (hr : ∀ b, PSs X rest (tS F Γ (Δ' b) N (kc b))) (hs : swapsWith e none pos.line X.env = pure false := by rfl) :
    PSs X (.Expr e pos :: rest) (tS F Γ Δ N T) :=
  (pss_cons (ps_expr he hs) (pss_ex hr)).wk fun D σ H ⟨ok, g, e, f⟩ => ⟨ok, g, e, fun b v H' kb fz ok' _ => ⟨b, ok', g, kb, N.mono f fz.fz⟩, fun er eg cls d H' st ok' hx => by
    subst eg
    exact hN _ _ D f cls d σ H' st.fz (ok'.hk.less hΔ) (hNx _ _ ok'.nm) hx⟩
/-- a new thing for what it may raise -/
theorem s_exprOX {E : β → Od} (he : PE X e (tOX true F Γ Δ T kc E Δ' ιx Kx Wx)) (hN : Ex N ιx Kx F Δx Nx Wx) (hΔ : Δx.Sublist Δ) (hNx : ∀ σ H, Nm Γ σ H → Nx σ H) (hr : ∀ b, PSs X rest (tS F Γ (Δ' b) N (kc b))) (hs : swapsWith e none pos.line X.env = pure false := by rfl) :
    PSs X (.Expr e pos :: rest) (tS F Γ Δ N T) :=
  (pss_cons (ps_expr he hs) (pss_ex hr)).wk fun D σ H ⟨ok, g, e, f⟩ => ⟨ok, g, e, fun b v H' kb fz ok' => ⟨b, ok'.ok.less (List.sublist_cons_self _ _), g, kb, N.mono f fz.fz⟩, fun er eg cls d H' st ok' hx => by
    subst eg
    exact hN _ _ D f cls d σ H' st.fz (ok'.hk.less hΔ) (hNx _ _ ok'.nm) hx⟩
theorem s_letX {i : Nat} {y : Str} {pos' : Pos} {α : Type} {val : β → α} {k2 : β → α → Option γ} (E0 : α → Pd) (nd : X.N.Nodup) (he : PE X e (tEX true F Γ Δ T (fun b => (some (val b)).bind (k2 b)) (fun b => E0 (val b)) Δ' ιx Kx Wx)) (hN : Ex N ιx Kx F Δx Nx Wx) (hΔ : Δx.Sublist Δ) (hNx : ∀ σ H, Nm Γ σ H → Nx σ H)
    (hr : ∀ b a, PSs X rest (tS F (Γ.set i (some (E0 a))) (Δ' b) N (k2 b a))) (hi : X.N[i]? = some y := by rfl) (hx : Loc X.env.scope y := by first | exact .inl rfl | exact .inr rfl)
    (hs : swapsWith e (some (.Name y pos')) pos.line X.env = pure false := by rfl) (hf : X.fn y = true ∨ X.env.scope.names.lookup y = some .local := by first | exact .inl rfl | exact .inr rfl | assumption) :
    PSs X (.Assign [.Name y pos'] e pos :: rest) (tS F Γ Δ N T) :=
  (pss_cons (ps_set nd hi hx he hs hf) (pss_ex fun b => hr b (val b))).wk fun D σ H ⟨ok, g, e, f⟩ => ⟨ok, g, e, fun b v H' kb fz ok' hv => ⟨b, ok'.set hv, g, kb, N.mono f fz.fz⟩, fun er eg cls d H' st ok' hx => by
    subst eg
    exact hN _ _ D f cls d σ H' st.fz (ok'.hk.less hΔ) (hNx _ _ ok'.nm) hx⟩
theorem s_letOX {i : Nat} {y : Str} {pos' : Pos} {α : Type} {val : β → α} {k2 : β → α → Option γ} (D0 : α → Od) (nd : X.N.Nodup) (he : PE X e (tOX true F Γ Δ T (fun b => (some (val b)).bind (k2 b)) (fun b => D0 (val b)) Δ' ιx Kx Wx)) (hN : Ex N ιx Kx F Δx Nx Wx) (hΔ : Δx.Sublist Δ) (hNx : ∀ σ H, Nm Γ σ H → Nx σ H)
    (hr : ∀ b a v, PSs X rest (tS F (Γ.set i (some (pV v))) (⟨v, D0 a, none⟩ :: Δ' b) N (k2 b a))) (hi : X.N[i]? = some y := by rfl) (hx : Loc X.env.scope y := by first | exact .inl rfl | exact .inr rfl)
    (hs : swapsWith e (some (.Name y pos')) pos.line X.env = pure false := by rfl) (hf : X.fn y = true ∨ X.env.scope.names.lookup y = some .local := by first | exact .inl rfl | exact .inr rfl | assumption) :
    PSs X (.Assign [.Name y pos'] e pos :: rest) (tS F Γ Δ N T) :=
  (pss_cons (ps_set nd hi hx he hs hf) (pss_ex fun b => pss_ex fun v => hr b (val b) v)).wk fun D σ H ⟨ok, g, e, f⟩ => ⟨ok, g, e, fun b v H' kb fz ok' => ⟨b, v, ok'.ok.set rfl, g, kb, N.mono f fz.fz⟩, fun er eg cls d H' st ok' hx => by
    subst eg
    exact hN _ _ D f cls d σ H' st.fz (ok'.hk.less hΔ) (hNx _ _ ok'.nm) hx⟩
theorem s_retX {ρ : Type} {P : ρ → Δs} {Rp : ρ → Pd} {ι : ρ → γ} {rv : β → ρ} (hR : ∀ H r D, N.fin H (ι r) D → RF F P Rp r D.rt) (he : PE X e (tEX true F Γ Δ T (fun b => some (ι (rv b))) (fun b => Rp (rv b)) Δ' ιx Kx Wx)) (hN : Ex N ιx Kx F Δx Nx Wx) (hΔ : Δx.Sublist Δ) (hNx : ∀ σ H, Nm Γ σ H → Nx σ H)
    (hP : ∀ b, (P (rv b)).Sublist (Δ' b)) : PSs X [.Return (some e) pos] (tS F Γ Δ N T) :=
  (pss_one (ps_ret he)).wk fun D σ H ⟨ok, g, e, f⟩ => ⟨ok, g, e, fun b v H' kb fz ok' hv => by
    have eg : g = ι (rv b) := (Option.some.inj kb).symm
    rw [eg] at f
    exact hR _ _ D f v H' (ok'.hk.less (hP b)) hv, fun er eg cls d H' st ok' hx => by
    subst eg
    exact hN _ _ D f cls d σ H' st.fz (ok'.hk.less hΔ) (hNx _ _ ok'.nm) hx⟩
theorem s_retOX {ρ : Type} {P : ρ → Δs} {Ro : ρ → Od} {ι : ρ → γ} {rv : β → ρ} (hR : ∀ H r D, N.fin H (ι r) D → RO F P Ro r D.rt) (he : PE X e (tOX true F Γ Δ T (fun b => some (ι (rv b))) (fun b => Ro (rv b)) Δ' ιx Kx Wx)) (hN : Ex N ιx Kx F Δx Nx Wx) (hΔ : Δx.Sublist Δ) (hNx : ∀ σ H, Nm Γ σ H → Nx σ H)
    (hP : ∀ b, (P (rv b)).Sublist (Δ' b)) : PSs X [.Return (some e) pos] (tS F Γ Δ N T) :=
  (pss_one (ps_ret he)).wk fun D σ H ⟨ok, g, e, f⟩ => ⟨ok, g, e, fun b v H' kb fz ok' => by
    have eg : g = ι (rv b) := (Option.some.inj kb).symm
    rw [eg] at f
    exact hR _ _ D f v H' (ok'.ok.hk.less ((hP b).cons₂ _)), fun er eg cls d H' st ok' hx => by
    subst eg
    exact hN _ _ D f cls d σ H' st.fz (ok'.hk.less hΔ) (hNx _ _ ok'.nm) hx⟩
end
end
end L3
end
section
set_option Elab.async false
set_option linter.all false
set_option maxRecDepth 100000
set_option maxHeartbeats 4000000
set_option autoImplicit true
/-! try; what an except suite does -/
namespace L3
open PySem PySem.Spec PyProof.Rows L2 PySem.SxX
/-- the exception that a suite holds -/
def pExc {ε : Type} (Kx : Xk ε) (a : Addr) (cls : Value) (d : Option Addr) (e : ε) : Pd := ⟨fun H v => v = .ref a ∧ Kx.ok e cls d H, fun f h => ⟨h.1, Kx.mono f h.2⟩⟩
/-- the rest of a try: by what its body does -/
def tryK {S τ ε γ : Type} (k2 : S → Option γ) (ι : τ → γ) (m : ε → Bool) (TS : ε → Option (Bo S τ)) (Ke : ε → Option γ) : Bo S (Except ε τ) → Option γ
  | .nx s => k2 s
  | .tm (.ok t) => some (ι t)
  | .tm (.error e) => if m e = true then (TS e).bind (boK k2 ι) else Ke e
/-- the name of the exception is gone -/
def Ends.un (D : Ends) (i : Nat) : Ends := { nx := fun σ' H' => D.nx (σ'.set i none) H', rt := D.rt, bk := fun σ' H' => D.bk (σ'.set i none) H', ct := fun σ' H' => D.ct (σ'.set i none) H' }
def Uns {τ : Type} (i : Nat) (Tf : Fn τ) : Prop := ∀ H t D, Tf.fin H t D → Tf.fin H t (Ends.un D i)
theorem uns_F {ρ : Type} {i : Nat} (R : Rt ρ) : Uns i (fF R) := fun _ _ _ h => h
theorem uns_X {ε τ : Type} {i : Nat} {Kx : Xk ε} {Tf : Fn τ} {F : Fm} {Δx : Δs} {Nx : SS → Hp → Prop} {Wx : WX} (h : Uns i Tf) : Uns i (fX Kx Tf F Δx Nx Wx) := fun H g D q => by
  cases g with
  | ok t => exact h H t D q
  | error e => exact q
theorem Ok.unset {F : Fm} {Γ : Gm} {Δ : Δs} {σ : SS} {H : Hp} {i : Nat} (k : Ok F Γ Δ σ H) (h : Γ[i]? = some none) : Ok F Γ Δ (σ.set i none) H :=
  ⟨k.hk, by rw [List.length_set]; exact k.len, fun j q e => by
    have hj : j ≠ i := fun z => by rw [z, h] at e; cases e
    rw [List.getElem?_set_ne (fun z => hj z.symm)]
    exact k.gam j q e⟩
theorem uns_T {S ρ : Type} {i : Nat} {F : Fm} {C : S → Cxt} {R : Rt ρ} (h : ∀ s, (C s).1[i]? = some none) : Uns i (fT F C R) := fun H g D q => by
  cases g with
  | ct s => exact fun σ' H' f ok => q _ H' f (ok.unset (h s))
  | bk s => exact fun σ' H' f ok => q _ H' f (ok.unset (h s))
  | rt r => exact q
section
variable {X : Cx} {W : Bool} {F : Fm} {Γ : Gm} {Δ : Δs} {γ ε : Type} {Kx : Xk ε}
theorem s_try_as {S τ : Type} {N : Fn γ} {Tf : Fn τ} {ι : τ → γ} {i : Nat} {x n : Str} {c : Value} {body suite rest : List Stmt} {b₀ : Stmt} {np pos pos' : Pos} {Wout : WX} {T : Option γ} {TB : Option (Bo S (Except ε τ))} {k2 : S → Option γ} {m : ε → Bool} {TS : ε → Option (Bo S τ)} {Ke : ε → Option γ}
    (C : S → Cxt) (Γx : Gm) (Δx : Δs) (hN : X.N.Nodup) (hc : Names X x c) (tk : Takes X Wout) (hm : ∀ e cls d H, Kx.ok e cls d H → PySem.W.exmOne X.K cls c = some (m e))
    (hT : T = TB.bind (tryK k2 ι m TS Ke))
    (hb : ∀ (W : WX) (pn : List (Addr × Obj)) (xe : Value → Shared → Prop), Takes (X.tr pn xe) W → PassesOwn (model X.prog X.w) X.A X.env xe → PSs (X.tr pn xe) body (tS F Γ Δ (fB F C (fX Kx Tf F Δx (Nm Γx) W)) TB))
    (hsu : ∀ (a : Addr) (oe : Obj) (cls : Value) (d : Option Addr) (pn : List (Addr × Obj)), Zc cls d oe → (∃ vs, oe.data = .fields vs) → ∀ e, PSs (X.suite a ((a, oe) :: pn)) (b₀ :: suite) (tS F (Γx.set i (some (pExc Kx a cls d e))) Δx (fB F C Tf) (TS e)))
    (hr : ∀ s, PSs X rest (tS F (C s).1 (C s).2 N (k2 s))) (hι : ∀ H t D, N.fin H (ι t) D → Tf.fin H t D) (hI : Ins Tf) (hU : Uns i Tf) (hCi : ∀ s, (C s).1[i]? = some none) (hE : ∀ e g H D, m e = false → Ke e = some g → N.fin H g D → xOut Kx F Δx (Nm Γx) Wout e H)
    (hs : X.stack = X.env :: X.outer := by rfl) (hf : X.env.frame = some X.env.locals := by rfl) (hi : X.N[i]? = some n := by rfl) (hln : X.env.kindOf n = some .local := by rfl) :
    PSs X (.Try body [.ExceptHandler (some (.Name x np)) (some n) (b₀ :: suite) pos'] [] [] pos :: rest) (tS F Γ Δ N T) :=
  (pss_cons (ps_try_as hs hf hN hi hln hc tk (tb := fun W => tS F Γ Δ (fB F C (fX Kx Tf F Δx (Nm Γx) W)) TB) hb (ts := fun a cls d D σ H => ∃ e, tS F (Γx.set i (some (pExc Kx a cls d e))) Δx (fB F C Tf) (TS e) D σ H) fun a oe cls d pn hz hf => pss_ex fun e => hsu a oe cls d pn hz hf e) (pss_ex hr)).wk fun D σ H ⟨ok, g, e, f⟩ => by
    rw [hT] at e
    obtain ⟨o, eo, ko⟩ := bind_some e
    refine ⟨ok, o, eo, ?_⟩
    cases o with
    | nx s => exact fun σ' H' fz ok' => ⟨s, ok', g, ko, N.mono f fz⟩
    | tm t =>
      cases t with
      | ok t =>
        have eg : ι t = g := Option.some.inj ko
        subst eg
        exact hI _ _ _ _ (hι _ _ D f)
      | error er =>
        intro cls d σ' H' fz hk nm hx
        have ko : (if m er = true then (TS er).bind (boK k2 ι) else Ke er) = some g := ko
        refine ⟨m er, hm er cls d H' hx, fun hmt a na => ?_, fun hmf => ?_⟩
        · rw [if_pos hmt] at ko
          obtain ⟨o2, eo2, ko2⟩ := bind_some ko
          refine ⟨er, (show Ok F Γx Δx σ' H' from ⟨hk, nm⟩).set (p := pExc Kx a cls d er) ⟨rfl, hx⟩, o2, eo2, ?_⟩
          cases o2 with
          | nx s => exact fun σ2 H2 fz2 ok2 => ⟨s, ok2.unset (hCi s), g, ko2, N.mono f (fz.trans fz2)⟩
          | tm t =>
            have eg : ι t = g := Option.some.inj ko2
            subst eg
            exact hU _ _ _ (hI _ _ _ _ (hι _ _ D (N.mono f fz)))
        · rw [hmf, if_neg Bool.false_ne_true] at ko
          exact hE er g H D hmf ko f cls d σ' H' fz hk nm hx
end
/-! ### isinstance of what is held -/
def rIsX (K : PySem.W.Frag) (a : Addr) (cls : Value) (d : Option Addr) : List V → Hp → VK → Prop := fun xs H Q => ∃ (D : Addr) (c : V) (b : Bool), xs = [.ref a, c] ∧ cls = .ref D ∧ ExcC K D ∧ (d = none ∨ ∃ dd fs, d = some dd ∧ H dd = some (.xd fs)) ∧
  ((∃ cv, ClsV c cv ∧ PySem.W.kitOne K (.ref D) cv = some b) ∨ ∃ tp cs us, c = .ref tp ∧ H tp = some (.tup cs) ∧ Paired ClsV cs us ∧ PySem.W.kitAny K (.ref D) us = some b) ∧ Q (.bl b) H
theorem call_isX {X : Cx} {a : Addr} {oe : Obj} {cls : Value} {d : Option Addr} {pn : List (Addr × Obj)} (hz : Zc cls d oe) (hf : ∃ vs, oe.data = .fields vs) : CallR (X.suite a ((a, oe) :: pn)) (.builtin "isinstance") (rIsX X.K a cls d) := by
  intro pins s σ H xs us Q I r h
  obtain ⟨D, c, b, rfl, rfl, C, hd, hk, q⟩ := h
  obtain ⟨u1, u2, rfl, r1, r2⟩ := vals2 r
  cases (show u1 = Value.ref a from r1)
  obtain ⟨hget, _⟩ := I.pin (a, oe) (List.mem_append.mpr (.inl List.mem_cons_self))
  obtain ⟨vs, hv⟩ := hf
  obtain ⟨od, J⟩ : ∃ od, PySem.W.InstAt s.heap a oe D od := by
    rcases hd with e | ⟨dd, fs, e, ed⟩
    · refine ⟨none, hget, hz.1, by unfold PySem.W.notCls; rw [hv] <;> rfl, by rw [hz.2, e]; exact trivial⟩
    · obtain ⟨mA, hns, _⟩ := (show ObjOk X.prog X.w H s.heap dd (.xd fs) from I.hok dd _ ed)
      obtain ⟨oD, ho, _⟩ := lookIn_ns hns
      exact ⟨some oD, hget, hz.1, by unfold PySem.W.notCls; rw [hv] <;> rfl, by rw [hz.2, e]; exact ho⟩
  have Z := PySem.W.kitx_exc (K := X.K) (x := a) (ox := oe) (od := od) (C := D) (by obtain ⟨cd, hc, _⟩ := PySem.W.any_some C.hd; rw [hc]; rfl) C.hg C.hk C.hs C.ha C.hn C.ht C.hm
  rcases hk with ⟨cv, k, e⟩ | ⟨tp, cs, us, rfl, hT, k, e⟩
  · cases k.eq r2
    exact PySem.W.kia_one Z I.kIn J e (fun z => nomatch z) fun tk => ⟨.bl b, H, I.kept (t' := tk) fun _ _ z => z, rfl, q⟩
  · cases (show u2 = Value.ref tp from r2)
    obtain ⟨_, its, rv, o, h1, h2, n, h3⟩ := (show ObjOk X.prog X.w H s.heap tp (.tup cs) from I.hok tp _ hT)
    have e3 := ClsV.all k rv
    subst e3
    obtain ⟨oc, od, dt, sl⟩ := o
    simp only at h2 h3
    subst h2 h3
    exact PySem.W.kia_tup Z I.kIn J h1 e (fun z => nomatch z) fun tk => ⟨.bl b, H, I.tok tk, rfl, q⟩
/-! ### curbdesk's errors -/
inductive FV where
  | str (x : Str)
  | int (i : Int)
  | tupI (xs : List Int)
  | lstS (xs : List Str)
  | dctI (xs : List (Str × Int))
def FV.p : FV → Pd
  | .str x => pStr x
  | .int i => pInt i
  | .tupI xs => pTL pInt xs
  | .lstS xs => pL pStr xs
  | .dctI xs => pM pInt xs
def FV.str? : FV → Option Str
  | .str x => some x
  | _ => none
def FV.int? : FV → Option Int
  | .int x => some x
  | _ => none
def FV.tupI? : FV → Option (List Int)
  | .tupI x => some x
  | _ => none
structure Er where
  cn : Str
  fs : List FV
def fieldTab : List (Str × List Str) := [("UnknownName", ["name"]), ("RepeatedName", ["name"]), ("UnknownValue", ["name", "value"]), ("RepeatedValue", ["value"]), ("UnknownKey", ["key"]), ("RepeatedKey", ["key"]), ("EmptyRule", []), ("BadRow", ["row"]), ("BadBounds", ["low", "high"]), ("BadNumber", ["number"]), ("BadStep", ["position"]),
  ("NoMark", ["number"]), ("NotStruck", ["name", "value"]), ("BadOrder", ["names"]), ("NotBare", ["found"]), ("NoClash", []), ("HoldsAnswer", ["answer"]), ("BadLine", ["number", "fault"]), ("UnknownLine", ["number"]), ("BadText", ["number"]), ("NothingToUndo", []), ("NothingToRedo", []), ("UnknownStep", ["number"]), ("BadDeed", ["position"])]
def fieldsOf (c : Str) : List Str := (fieldTab.lookup c).getD []
theorem fields_nd (c : Str) : (fieldsOf c).Nodup := by
  have h : ∀ p ∈ fieldTab, p.2.Nodup := by decide +kernel
  unfold fieldsOf
  cases e : fieldTab.lookup c with
  | none => exact List.nodup_nil
  | some l =>
    have : ∀ {t : List (Str × List Str)}, t.lookup c = some l → ∃ p ∈ t, p.2 = l := by
      intro t
      induction t with
      | nil => intro h; cases h
      | cons p t ih =>
        intro h
        obtain ⟨a, b⟩ := p
        rw [List.lookup_cons] at h
        split at h
        · cases h; exact ⟨_, List.mem_cons_self, rfl⟩
        · obtain ⟨q, hq, e⟩ := ih h
          exact ⟨q, List.mem_cons_of_mem _ hq, e⟩
    obtain ⟨p, hp, e2⟩ := this e
    rw [← e2]
    exact h p hp
/-- a class is another, or below it -/
def subC (x y : Str) : Bool := x == y || y == "DeskError" || y == "ValueError"
def gaM (mg : Str → Option Value) (x : Str) : Addr := match mg x with
  | some (.ref a) => a
  | _ => 0
def clsU (mg : Str → Option Value) (x : Str) : Value := match mg x with
  | some (.ref a) => .ref a
  | _ => .type "ValueError"
def clsW (mg : Str → Option Value) (x : Str) : V := match mg x with
  | some (.ref a) => .ref a
  | _ => .ty "ValueError"
theorem cls_VU (mg : Str → Option Value) (x : Str) : ClsV (clsW mg x) (clsU mg x) := by
  unfold clsW clsU
  split
  · exact .own _
  · exact .ty _
/-- of the classes rs -/
def erX (mg : Str → Option Value) (rs : List Str) : Xk Er := ⟨fun e cls d H => e.cn ∈ rs ∧ exC (gaM mg e.cn) (fieldsOf e.cn) (e.fs.map FV.p) cls d H, fun f h => ⟨h.1, exC_mono f h.2⟩⟩
/-- a field -/
def erF (e : Er) (f : Str) : Option FV := ((fieldsOf e.cn).zip e.fs).lookup f
structure XcT (P : Program) (K : PySem.W.Frag) (mg : Str → Option Value) (x : Str) : Prop where
  g : mg x = some (.ref (gaM mg x))
  tx : ∃ fI, SxTxt P K (gaM mg x) fI (fieldsOf x)
  ec : ExcC K (gaM mg x)
  xf : XfC K (gaM mg x)
/-- what the written part says of the errors rs and the classes cs -/
structure XsT (P : Program) (K : PySem.W.Frag) (mg : Str → Option Value) (rs cs : List Str) : Prop where
  sup : mg "super" = none
  x : ∀ x ∈ rs, XcT P K mg x
  own : ∀ y ∈ cs, y = "ValueError" ∧ mg y = none ∨ mg y = some (.ref (gaM mg y))
  kit : ∀ x ∈ rs, ∀ y ∈ cs, PySem.W.kitOne K (.ref (gaM mg x)) (clsU mg y) = some (subC x y)
  exm : ∀ x ∈ rs, ∀ y ∈ cs, PySem.W.exmOne K (.ref (gaM mg x)) (clsU mg y) = some (subC x y)
theorem XsT.kits {P : Program} {K : PySem.W.Frag} {mg : Str → Option Value} {rs cs : List Str} (T : XsT P K mg rs cs) {x : Str} (hx : x ∈ rs) : ∀ {ys : List Str}, (∀ y ∈ ys, y ∈ cs) → ys ≠ [] → PySem.W.kitAny K (.ref (gaM mg x)) (ys.map (clsU mg)) = some (ys.any (subC x))
  | [], _, ne => absurd rfl ne
  | [y], h, _ => by
    have e := T.kit x hx y (h y List.mem_cons_self)
    show PySem.W.kitAny K _ [clsU mg y] = some (subC x y || false)
    rw [Bool.or_false]
    unfold PySem.W.kitAny
    rw [e]
    cases subC x y <;> rfl
  | y :: z :: ys, h, _ => by
    have e := T.kit x hx y (h y List.mem_cons_self)
    have ih := T.kits hx (ys := z :: ys) (fun w hw => h w (List.mem_cons_of_mem _ hw)) (by simp)
    show PySem.W.kitAny K _ (clsU mg y :: (z :: ys).map (clsU mg)) = some (subC x y || (z :: ys).any (subC x))
    refine kitAny_cons e (fun hb => ?_) fun hb => ?_
    · rw [hb, Bool.false_or]; exact ih
    · rw [hb, Bool.true_or]
theorem XsT.names {P : Program} {rs cs : List Str} {X : Cx} (T : XsT P X.K X.mg rs cs) {y : Str} (hy : y ∈ cs) (hg : Gl X y := by rfl) (hd : (y == ("__debug__" : Str)) = false := by decide) (hn : y ≠ "__name__" := by decide) : Names X y (clsU X.mg y) := by
  refine ⟨hg, hd, ?_⟩
  unfold clsU
  rcases T.own y hy with ⟨e, h⟩ | h
  · rw [h]; subst e
    exact .inr ⟨rfl, by decide +kernel, hn⟩
  · rw [h]; exact .inl rfl
section
variable {X : Cx} {W : Bool} {F : Fm} {Γ : Gm} {Δ : Δs} {γ : Type} {P : Program} {rs cs : List Str}
/-- a class by its name -/
theorem x_cls {k : Unit → Option γ} {y : Str} {pos : Pos} (T : XsT P X.K X.mg rs cs) (hy : y ∈ cs) (hg : Gl X y := by rfl) (hd : (y == ("__debug__" : Str)) = false := by decide) (hn : y ≠ "__name__" := by decide) : PE X (.Name y pos) (tE W F Γ Δ (k ()) k (fun _ => pV (clsW X.mg y)) fun _ => Δ) := by
  have h : PE X (.Name y pos) (tC (clsW X.mg y)) := by
    unfold clsW
    rcases T.own y hy with ⟨e, h⟩ | h
    · rw [h]; subst e
      exact pe_bltn hg h (by decide +kernel) rfl hn hd
    · rw [h]; exact pe_glob hg h rfl hd
  exact h.wk fun σ H Q ⟨ok, g, e, q⟩ => q () _ H e (St.refl H) ok rfl
variable {a : Addr} {oe : Obj} {cls : Value} {d : Option Addr} {pn : List (Addr × Obj)} {e : Er} {mg : Str → Option Value}
theorem exC_d {C : Addr} {ps : List Str} {pds : List Pd} {H : Hp} (h : exC C ps pds cls d H) : d = none ∨ ∃ dd fs, d = some dd ∧ H dd = some (.xd fs) := by
  obtain ⟨_, ⟨_, h⟩ | ⟨_, dd, vs, e, h, _⟩⟩ := h
  · exact .inl h
  · exact .inr ⟨dd, _, e, h⟩
/-- isinstance(e, C) -/
theorem x_isE1 {β : Type} {T0 : Option γ} {k : β → Option γ} {Δ1 : β → Δs} {ne : Expr} {y : Str} {p1 p3 pos : Pos} (hz : Zc cls d oe) (hf : ∃ vs, oe.data = .fields vs) (T : XsT P X.K X.mg rs cs) (hy : y ∈ cs) (hm : X.mg "isinstance" = none) (h1 : PE (X.suite a ((a, oe) :: pn)) ne (tE W F Γ Δ T0 k (fun _ => pExc (erX X.mg rs) a cls d e) Δ1))
    (hg : Gl X "isinstance" := by rfl) (hgy : Gl X y := by rfl) (hdy : (y == ("__debug__" : Str)) = false := by decide) (hny : y ≠ "__name__" := by decide) (hs : starEach [ne, .Name y p3] X.env = (false, eval ne X.env) :: starEach [.Name y p3] X.env := by rfl) :
    PE (X.suite a ((a, oe) :: pn)) (.Call (.Name "isinstance" p1) [ne, .Name y p3] [] pos) (tE W F Γ Δ T0 k (fun _ => pBl (subC e.cn y)) Δ1) := by
  have h2 : ∀ b, PE (X.suite a ((a, oe) :: pn)) (.Name y p3) (tE W F Γ (Δ1 b) (k b) (fun _ : Unit => k b) (fun _ => pV (clsW X.mg y)) fun _ => Δ1 b) := fun b => x_cls (k := fun _ => k b) (X := X.suite a ((a, oe) :: pn)) T hy hgy hdy hny
  exact (b_callB (X := X.suite a ((a, oe) :: pn)) (call_isX hz hf) hg hm boot_isinstance (by decide) (by decide) hs (by rfl) (by rfl) _ _ h1 (pe_ex h2)).wk fun σ H Q ⟨ok, g, e', q⟩ => ⟨ok, g, e', fun b v H1 kb f ok1 hv => ⟨b, ok1, g, kb, fun _ w H2 kb2 f2 ok2 hw => by
    obtain ⟨ev, hin, hx⟩ := hv
    have hw : w = clsW X.mg y := hw
    subst ev hw
    have hx2 := exC_mono f2.fz hx
    exact ⟨_, _, _, rfl, hx2.1, (T.x _ hin).ec, exC_d hx2, .inl ⟨_, cls_VU X.mg y, T.kit _ hin y hy⟩, q b _ H2 kb (f.trans f2) ok2 rfl⟩⟩⟩
/-- a tuple of classes -/
def pTps (ps : List Pd) : Pd where
  pr H v := ∃ a vs, v = .ref a ∧ H a = some (.tup vs) ∧ Paired (fun p u => Pd.pr p H u) ps vs
  mono := fun f ⟨a, vs, e, h, p⟩ => ⟨a, vs, e, f _ _ trivial h, paired_mono (fun p _ q => p.mono f q) p⟩
theorem x_tups {X : Cx} {es : List Expr} {x1} {pos : Pos} {β : Type} {T : Option γ} {k : β → Option γ} {Δ1 : β → Δs} {ps : List Pd} (ha : PA X es (tAr W F Γ Δ T k (fun _ => ps) Δ1)) (hl : ps.length ≤ 1000 := by decide) : PE X (.Tuple es x1 pos) (tE W F Γ Δ T k (fun _ => pTps ps) Δ1) :=
  (pe_tup ha).wk fun σ H Q ⟨ok, g, e, w⟩ => ⟨ok, g, e, fun b vs H' kb f ok' hp => by
    refine ⟨by rw [← paired_len hp]; exact Nat.le_trans hl (by decide), fun t nt => ?_⟩
    have g' : Gr H' (upd H' t (.tup vs)) := Gr.new nt
    exact w b _ _ kb (f.trans g'.st) (ok'.gr g') ⟨t, vs, rfl, upd_same, paired_mono (fun p v q => p.mono g'.fzs q) hp⟩⟩
theorem clsVs {H : Hp} {mg : Str → Option Value} : ∀ {ys : List Str} {vs : List V}, Paired (fun p u => Pd.pr p H u) (ys.map fun y => pV (clsW mg y)) vs → Paired ClsV vs (ys.map (clsU mg))
  | [], _, .nil => .nil
  | y :: ys, _, .cons r t => .cons (by
    rename_i v vs
    have r : v = clsW mg y := r
    rw [r]
    exact cls_VU mg y) (clsVs t)
/-- isinstance(e, (C, D, ..)) -/
theorem x_isET {β : Type} {T0 : Option γ} {k : β → Option γ} {Δ1 : β → Δs} {ne te : Expr} {p1 pos : Pos} (ys : List Str) (hz : Zc cls d oe) (hf : ∃ vs, oe.data = .fields vs) (T : XsT P X.K X.mg rs cs) (hy : ∀ y ∈ ys, y ∈ cs) (hyn : ys ≠ []) (hm : X.mg "isinstance" = none) (h1 : PE (X.suite a ((a, oe) :: pn)) ne (tE W F Γ Δ T0 k (fun _ => pExc (erX X.mg rs) a cls d e) Δ1))
    (h2 : ∀ b, PE (X.suite a ((a, oe) :: pn)) te (tE W F Γ (Δ1 b) (k b) (fun _ : Unit => k b) (fun _ => pTps (ys.map fun y => pV (clsW X.mg y))) fun _ => Δ1 b)) (hg : Gl X "isinstance" := by rfl) (hs : starEach [ne, te] X.env = (false, eval ne X.env) :: starEach [te] X.env := by rfl) (hs2 : starEach [te] X.env = (false, eval te X.env) :: starEach [] X.env := by rfl) (hpl : (backTo pos (starEach [te] X.env)).any (·.1) = false := by rfl) :
    PE (X.suite a ((a, oe) :: pn)) (.Call (.Name "isinstance" p1) [ne, te] [] pos) (tE W F Γ Δ T0 k (fun _ => pBl (ys.any (subC e.cn))) Δ1) :=
  (b_callB (X := X.suite a ((a, oe) :: pn)) (call_isX hz hf) hg hm boot_isinstance (by decide) (by decide) hs hs2 hpl _ _ h1 (pe_ex h2)).wk fun σ H Q ⟨ok, g, e', q⟩ => ⟨ok, g, e', fun b v H1 kb f ok1 hv => ⟨b, ok1, g, kb, fun _ w H2 kb2 f2 ok2 hw => by
    obtain ⟨ev, hin, hx⟩ := hv
    obtain ⟨tp, vs, ew, ht, hp⟩ := hw
    subst ev ew
    have hx2 := exC_mono f2.fz hx
    exact ⟨_, _, _, rfl, hx2.1, (T.x _ hin).ec, exC_d hx2, .inr ⟨tp, vs, _, rfl, ht, clsVs hp, T.kits hin hy hyn⟩, q b _ H2 kb (f.trans f2) ok2 rfl⟩⟩⟩
theorem zip_rev_V : ∀ {ps : List Str} {vs : List V}, ps.Nodup → ∀ {f : Str} {pds : List Pd} {fvs : List FV} {fv : FV} {H : Hp}, pds = fvs.map FV.p → Paired (fun p v => Pd.pr p H v) pds vs → (ps.zip fvs).lookup f = some fv → ∃ v, (ps.zip vs).reverse.lookup f = some v ∧ (FV.p fv).pr H v
  | [], _, _, f, pds, fvs, fv, H, _, _, h => by simp at h
  | p :: ps, vs, nd, f, pds, [], fv, H, _, _, h => by simp at h
  | p :: ps, vs, nd, f, pds, q :: fvs, fv, H, e, hp, h => by
    subst e
    cases hp with
    | @cons _ v _ vs r t =>
      rw [List.nodup_cons] at nd
      rw [List.zip_cons_cons, List.lookup_cons] at h
      rw [List.zip_cons_cons, List.reverse_cons, List.lookup_append]
      by_cases hf : f = p
      · subst hf
        simp only [beq_self_eq_true] at h
        cases h
        have hn : (ps.zip vs).reverse.lookup f = none := by
          rw [List.lookup_eq_none_iff]
          intro q hq
          have hq := List.mem_reverse.mp hq
          have := (List.of_mem_zip (show (q.1, q.2) ∈ ps.zip vs from hq)).1
          simp only [beq_eq_false_iff_ne, ne_eq, bne_iff_ne, Bool.not_eq_true]
          exact fun e => nd.1 (by rw [e]; exact this)
        rw [hn]
        exact ⟨v, by simp [List.lookup], r⟩
      · have hb : (f == p) = false := by simpa using hf
        rw [hb] at h
        obtain ⟨v', e', r'⟩ := zip_rev_V nd.2 (f := f) rfl t h
        exact ⟨v', by rw [e']; rfl, r'⟩
/-- e.f -/
theorem x_erF {β : Type} {T0 : Option γ} {k : β × FV → Option γ} {Δ1 : β → Δs} {ne : Expr} {f : Str} {pos : Pos} (hz : Zc cls d oe) (hf : ∃ vs, oe.data = .fields vs) (T : XsT P X.K X.mg rs cs) (h1 : PE (X.suite a ((a, oe) :: pn)) ne (tE W F Γ Δ T0 (fun b => (erF e f).bind fun y => k (b, y)) (fun _ => pExc (erX X.mg rs) a cls d e) Δ1))
    (hb : attributeBase ne f X.env (eval ne X.env) = eval ne X.env := by rfl) : PE (X.suite a ((a, oe) :: pn)) (.Attribute ne f pos) (tE W F Γ Δ T0 k (fun b => FV.p b.2) fun b => Δ1 b.1) := by
  by_cases hin : e.cn ∈ rs ∧ f ∈ fieldsOf e.cn
  · obtain ⟨fI, tx⟩ := (T.x _ hin.1).tx
    exact (pe_xf (X := X) (T.x _ hin.1).xf (tx.noN f hin.2) hz hf h1 hb).wk fun σ H Q ⟨ok, g, e', q⟩ => ⟨ok, g, e', fun b v H1 kb fz ok1 hv => by
      obtain ⟨ev, _, hx⟩ := hv
      obtain ⟨y, ey, ky⟩ := bind_some kb
      obtain ⟨ec, ⟨en, _⟩ | ⟨_, dd, vs, ed, hd, hp⟩⟩ := hx
      · unfold erF at ey
        rw [en] at ey
        simp at ey
      · obtain ⟨v', el, hv'⟩ := zip_rev_V (fields_nd e.cn) rfl hp ey
        exact ⟨ev, ec, dd, _, v', ed, hd, el, q (b, y) v' H1 ky fz ok1 hv'⟩⟩
  · have he : ∀ {τ : Type} (kk : FV → Option τ), e.cn ∈ rs → (erF e f).bind kk = none := fun kk hr => by
      have hnf : f ∉ fieldsOf e.cn := fun z => hin ⟨hr, z⟩
      have : erF e f = none := by
        unfold erF
        rw [List.lookup_eq_none_iff]
        intro q hq
        have := (List.of_mem_zip (show (q.1, q.2) ∈ (fieldsOf e.cn).zip e.fs from hq)).1
        simp only [beq_eq_false_iff_ne, ne_eq, bne_iff_ne, Bool.not_eq_true]
        exact fun e => hnf (by rw [e]; exact this)
      rw [this]; rfl
    refine ⟨fun pins s σ H Q I ⟨ok, g, e', q⟩ => attr_of hb (thn (h1.run pins s σ H (fun _ _ => False) I ⟨ok, g, e', fun b v H1 kb fz ok1 hv => by
      obtain ⟨y, ey, _⟩ := bind_some kb
      have z := he (fun y => some y) hv.2.1
      rw [ey] at z
      cases z⟩) fun u s1 hh => ?_)⟩
    obtain ⟨_, _, _, _, z⟩ := hh
    exact z.elim
/-- a field is of this kind -/
theorem x_fv {X : Cx} {a : Expr} {β α : Type} {T : Option γ} {k : β × α → Option γ} {Ee : α → Pd} {x : β → FV} {Δ1 : β → Δs} (c : FV → Option α) (hc : ∀ y z, c y = some z → FV.p y = Ee z) (ha : PE X a (tE W F Γ Δ T (fun b => (c (x b)).bind fun y => k (b, y)) (fun b => FV.p (x b)) Δ1)) : PE X a (tE W F Γ Δ T k (fun b => Ee b.2) fun b => Δ1 b.1) :=
  ha.wk fun σ H Q ⟨ok, g, e, q⟩ => ⟨ok, g, e, fun b v H' kb f ok' hv => by
    obtain ⟨y, ey, ky⟩ := bind_some kb
    have hv : (FV.p (x b)).pr H' v := hv
    rw [hc _ _ ey] at hv
    exact q (b, y) v H' ky f ok' hv⟩
theorem fv_str : ∀ y z, FV.str? y = some z → FV.p y = pStr z := fun y z h => by cases y <;> cases h <;> rfl
theorem fv_int : ∀ y z, FV.int? y = some z → FV.p y = pInt z := fun y z h => by cases y <;> cases h <;> rfl
theorem fv_tupI : ∀ y z, FV.tupI? y = some z → FV.p y = pTL pInt z := fun y z h => by cases y <;> cases h <;> rfl
end
end L3
end
section
set_option Elab.async false
set_option linter.all false
set_option maxRecDepth 100000
set_option maxHeartbeats 4000000
set_option autoImplicit true
/-! loops that may raise; if-expressions; wide division; texts repeated -/
namespace L3
open PySem PySem.Spec PyProof.Rows L2 PySem.SxX
theorem nm_wk {Γ Γ' : Gm} {σ : SS} {H : Hp} (k : Nm Γ σ H) (g : SubG Γ' Γ) : Nm Γ' σ H := ⟨k.len.trans g.len.symm, fun i p e => k.gam i p (g.get e)⟩
/-- a loop's turn, its terminal any -/
def fTg {S τ : Type} (F : Fm) (C : S → Cxt) (Tf : Fn τ) : Fn (Tm S τ) := ⟨fun H o D => match o with
  | .ct s => nxOk F (C s) H D.ct
  | .bk s => nxOk F (C s) H D.bk
  | .rt r => Tf.fin H r D, fun {H H' g D} h f => by
    cases g with
    | ct s => exact nxOk.mono h f
    | bk s => exact nxOk.mono h f
    | rt r => exact Tf.mono h f⟩
/-- it hangs on rt alone -/
def InsT {τ : Type} (Tf : Fn τ) : Prop := ∀ H r (D D' : Ends), D.rt = D'.rt → Tf.fin H r D → Tf.fin H r D'
theorem insT_F {ρ : Type} (R : Rt ρ) : InsT (fF R) := fun H r D D' e h => by
  have h : R r D.rt := h
  show R r D'.rt
  rw [← e]; exact h
theorem insT_X {ε τ : Type} {Kx : Xk ε} {Tf : Fn τ} {F : Fm} {Δx : Δs} {Nx : SS → Hp → Prop} {Wx : WX} (h : InsT Tf) : InsT (fX Kx Tf F Δx Nx Wx) := fun H g D D' e q => by
  cases g with
  | ok t => exact h H t D D' e q
  | error e => exact q
theorem ins_Tg {S τ : Type} {F : Fm} {C : S → Cxt} {Tf : Fn τ} (h : InsT Tf) : Ins (fTg F C Tf) := fun H g D n q => by
  cases g with
  | ct s => exact q
  | bk s => exact q
  | rt r => exact h H r D _ rfl q
theorem ex_T {ε S τ : Type} {Kx : Xk ε} {Tf : Fn τ} {ιx : ε → τ} {C : S → Cxt} {F F' : Fm} {Δx : Δs} {Nx : SS → Hp → Prop} {Wx : WX} (h : Ex Tf ιx Kx F Δx Nx Wx) : Ex (fTg F' C Tf) (fun e => Tm.rt (ιx e)) Kx F Δx Nx Wx := fun H e D q => h H e D q
theorem uns_Tg {S τ : Type} {i : Nat} {F : Fm} {C : S → Cxt} {Tf : Fn τ} (hT : InsT Tf) (h : ∀ s, (C s).1[i]? = some none) : Uns i (fTg F C Tf) := fun H g D q => by
  cases g with
  | ct s => exact fun σ' H' f ok => q _ H' f (ok.unset (h s))
  | bk s => exact fun σ' H' f ok => q _ H' f (ok.unset (h s))
  | rt r => exact hT H r D _ rfl q
section
variable {X : Cx} {W : Bool} {F : Fm} {Γ : Gm} {Δ : Δs} {γ : Type} {N : Fn γ} {rest : List Stmt}
theorem s_forX {tg iter : Expr} {body : List Stmt} {pos : Pos} {g : TG} {α β S ρ : Type} {T : Option γ} {Ex : α → Pd} {bd : Gm → α → Gm} {xs : β → List α} {Δ' : β → Δs} {f : β → α → S → Option (Bo S (Tm S ρ))} {k2 : β → S → Option γ} {ι : ρ → γ} {Tf : Fn ρ} (hp : PassesOwn (model X.prog X.w) X.A X.env X.xe) (C : β → S → Cxt) (s0 : β → S)
    (hi : PI X tg iter (tI true F Γ Δ T (fun b => (forL (xs b) (s0 b) (f b)).bind (boK (k2 b) ι)) Ex xs Δ')) (hg : PG X tg g) (ht : Tgt g Ex bd) (h0 : ∀ b, SubG (C b (s0 b)).1 Γ) (h0d : ∀ b, (C b (s0 b)).2.Sublist (Δ' b))
    (hb : ∀ b x s, PSs X body (tS F (bd (C b s).1 x) (C b s).2 (fB F (C b) (fTg F (C b) Tf)) (f b x s))) (hr : ∀ b s, PSs X rest (tS F (C b s).1 (C b s).2 N (k2 b s))) (hN : ∀ H r D, N.fin H (ι r) D → Tf.fin H r D) (hI : InsT Tf) (hc : X.calm = true := by rfl) (hfs : ∀ x, foldedSetIterable iter X.env x = pure x := by intro _; rfl) :
    PSs X (.For tg iter body [] pos :: rest) (tS F Γ Δ N T) :=
  (pss_cons (ps_for hp hc hi hg (pss_ex fun b => pss_ex fun x => pss_ex fun s => hb b x s) hfs) (pss_ex fun b => pss_ex fun s => hr b s)).wk fun D σ H ⟨ok, gg, e, fin⟩ => ⟨ok, gg, e, fun b J H1 kb f1 ok1 _ wk => by
    obtain ⟨o, eo, ko⟩ := bind_some kb
    refine ⟨fun i m σ' H' => i + m = (xs b).length ∧ Fzs H1 H' ∧ ∃ s, Ok F (C b s).1 (C b s).2 σ' H' ∧ forL ((xs b).drop i) s (f b) = some o, ⟨(xs b).length, Nat.zero_add _, Fzs.refl _, s0 b, ok1.wk (h0 b) (h0d b), by rw [List.drop_zero]; exact eo⟩, fun i m σ2 H2 ⟨em, fz2, s, ok2, e2⟩ => ?_⟩
    by_cases hi : i < (xs b).length
    · obtain ⟨x, hx, ed⟩ := drop_cons hi
      rw [ed] at e2
      have e2 : (f b x s).bind _ = some o := e2
      obtain ⟨ob, eb, e2⟩ := bind_some e2
      refine .inr ⟨((wk H2 fz2) i).1 hi, fun σ3 H3 => (i + 1) + (m - 1) = (xs b).length ∧ Fzs H1 H3 ∧ ∃ s, Ok F (C b s).1 (C b s).2 σ3 H3 ∧ forL ((xs b).drop (i + 1)) s (f b) = some o, fun σ3 H3 h3 => ⟨m - 1, by omega, h3⟩, fun v H3 hy => ?_⟩
      obtain ⟨gr3, pv⟩ := ((wk H2 fz2) i).2.2 x v H3 hx hy
      refine ht F _ _ σ2 H3 x v _ (ok2.gr gr3) pv fun σ4 ok4 => ⟨b, x, s, ok4, ob, eb, ?_⟩
      cases ob with
      | nx s' => exact fun σ5 H5 f5 ok5 => ⟨by omega, (fz2.trans gr3.fzs).trans f5, s', ok5, e2⟩
      | tm t =>
        cases t with
        | ct s' => exact fun σ5 H5 f5 ok5 => ⟨by omega, (fz2.trans gr3.fzs).trans f5, s', ok5, e2⟩
        | bk s' =>
          have e2 : some (Bo.nx s') = some o := e2
          cases e2
          exact fun σ5 H5 f5 ok5 => ⟨b, s', ok5, gg, ko, N.mono fin (f1.fz.trans ((fz2.trans gr3.fzs).trans f5))⟩
        | rt r =>
          have e2 : some (Bo.tm r) = some o := e2
          cases e2
          have ko : some (ι r) = some gg := ko
          cases ko
          exact hI _ _ D _ rfl (Tf.mono (hN H r D fin) (f1.fz.trans (fz2.trans gr3.fzs)))
    · refine .inl ⟨((wk H2 fz2) i).2.1 (by omega), ?_⟩
      rw [List.drop_eq_nil_of_le (by omega)] at e2
      have e2 : some (Bo.nx s) = some o := e2
      cases e2
      exact ⟨b, s, ok2, gg, ko, N.mono fin (f1.fz.trans fz2)⟩⟩
end
theorem XsT.exms {P : Program} {K : PySem.W.Frag} {mg : Str → Option Value} {rs cs : List Str} (T : XsT P K mg rs cs) {y : Str} (hy : y ∈ cs) : ∀ e cls d H, (erX mg rs).ok e cls d H → PySem.W.exmOne K cls (clsU mg y) = some (subC e.cn y) := fun e cls d H h => by
  rw [h.2.1]
  exact T.exm _ h.1 y hy
section
variable {X : Cx} {W : Bool} {F : Fm} {Γ : Gm} {Δ : Δs} {γ : Type}
theorem y_cls {P : Program} {rs cs : List Str} {T : Option γ} {y : Str} {pos : Pos} (Tx : XsT P X.K X.mg rs cs) (hy : y ∈ cs) (hg : Gl X y := by rfl) (hd : (y == ("__debug__" : Str)) = false := by decide) (hn : y ≠ "__name__" := by decide) : PE X (.Name y pos) (tE W F Γ Δ T (fun _ : Unit => T) (fun _ => pV (clsW X.mg y)) fun _ => Δ) := x_cls (k := fun _ => T) Tx hy hg hd hn
/-- a if c else b -/
theorem x_ife {ce a b : Expr} {pos : Pos} {β β2 β3 S α : Type} {T : Option γ} {k : β × (α × S) → Option γ} {c : β → Bool} {Δ1 : β → Δs} {Ta Tb : β → Option (α × S)} {va : β → β2 → α} {vb : β → β3 → α} {sa : β → β2 → S} {sb : β → β3 → S} {ΔS : β → S → Δs} {Δa : β → β2 → Δs} {Δb : β → β3 → Δs} (E : α → Pd)
    (hc : PT X ce (tTs W F Γ Δ T (fun b => (if c b = true then Ta b else Tb b).bind fun v => k (b, v)) c Δ1)) (ha : ∀ b1, PE X a (tE W F Γ (Δ1 b1) (Ta b1) (fun b2 => some (va b1 b2, sa b1 b2)) (fun b2 => E (va b1 b2)) (Δa b1)))
    (hb : ∀ b1, PE X b (tE W F Γ (Δ1 b1) (Tb b1) (fun b2 => some (vb b1 b2, sb b1 b2)) (fun b2 => E (vb b1 b2)) (Δb b1))) (h1 : ∀ b1 b2, Δa b1 b2 = ΔS b1 (sa b1 b2)) (h2 : ∀ b1 b2, Δb b1 b2 = ΔS b1 (sb b1 b2)) :
    PE X (.IfExp ce a b pos) (tE W F Γ Δ T k (fun b => E b.2.1) fun b => ΔS b.1 b.2.2) :=
  (pe_ifExp hc (pe_ex ha) (pe_ex hb)).wk fun σ H Q ⟨ok, g, e, q⟩ => ⟨ok, g, e, fun b1 H1 kb f ok1 => by
    obtain ⟨v, ev, kv⟩ := bind_some kb
    cases h : c b1 with
    | true =>
      rw [if_pos h] at ev
      refine iteT ⟨b1, ok1, v, ev, fun b2 u H2 kb2 f2 ok2 hu => ?_⟩
      have e2 : (va b1 b2, sa b1 b2) = v := Option.some.inj kb2
      rw [← e2] at kv
      rw [h1] at ok2
      exact q (b1, (va b1 b2, sa b1 b2)) u H2 kv (f.trans f2) ok2 hu
    | false =>
      rw [h, if_neg Bool.false_ne_true] at ev
      refine iteF ⟨b1, ok1, v, ev, fun b2 u H2 kb2 f2 ok2 hu => ?_⟩
      have e2 : (vb b1 b2, sb b1 b2) = v := Option.some.inj kb2
      rw [← e2] at kv
      rw [h2] at ok2
      exact q (b1, (vb b1 b2, sb b1 b2)) u H2 kv (f.trans f2) ok2 hu⟩
section
variable {a b : Expr} {pos : Pos} {β1 β2 : Type} {T : Option γ} {k1 : β1 → Option γ} {k : β1 × β2 → Option γ} {Δ1 : β1 → Δs} {Δ2 : β1 → β2 → Δs}
/-- // by a great number -/
def dvW (j : Int) : Bool := decide (0 < j) && decide (j.natAbs.log2 < 9000)
theorem x_fdivW {i : β1 → Int} {j : β1 → β2 → Int} (ha : PE X a (tE W F Γ Δ T k1 (fun b => pInt (i b)) Δ1)) (hb : ∀ b1, PE X b (tE W F Γ (Δ1 b1) (k1 b1) (fun b2 => grd (dvW (j b1 b2) = true) (k (b1, b2))) (fun b => pInt (j b1 b)) (Δ2 b1))) :
    PE X (.BinOp a .FloorDiv b pos) (tE W F Γ Δ T k (fun b => pInt (i b.1 / j b.1 b.2)) fun b => Δ2 b.1 b.2) :=
  x2g (b_op op_fdivW) ha hb fun b1 b2 _ v w H Q _ c hv hw q => ⟨i b1, j b1 b2, hv, hw, by
    obtain ⟨h1, h2⟩ := Bool.and_eq_true_iff.mp c
    exact ⟨of_decide_eq_true h1, of_decide_eq_true h2⟩, q _ rfl⟩
/-- a text repeated -/
def strRep (x : Str) (n : Int) : Str := if n < 1 then Str.empty else if (n == 1 || x.length == 0) = true then x else ⟨(List.replicate n.toNat x.cps).foldl (· ++ ·) #[]⟩
def repOk (x : Str) (n : Int) : Bool := decide (0 ≤ n) && decide (n ≤ 1000) && decide (x.length ≤ 1000)
def rStrRep : R2 := fun x y H Q => ∃ a n, x = .str a ∧ y = .int n ∧ repOk a n = true ∧ Q (.str (strRep a n)) H
theorem op_strRep : OpR X (binaryOp .Mult) rStrRep := by
  intro pins s σ H x y v u Q I rx ry h
  obtain ⟨a, n, rfl, rfl, hk, q⟩ := h
  obtain ⟨t, rfl⟩ := rx
  obtain ⟨t2, rfl⟩ := ry
  obtain ⟨hk1, hk3⟩ := Bool.and_eq_true_iff.mp hk
  obtain ⟨hk1, hk2⟩ := Bool.and_eq_true_iff.mp hk1
  have hk1 := of_decide_eq_true hk1
  have hk2 := of_decide_eq_true hk2
  have hk3 := of_decide_eq_true hk3
  have hmul : a.length * n.toNat ≤ 1000 * 1000 := Nat.mul_le_mul hk3 (by omega)
  refine P.mul_str ?_ (fun h1 _ => ?_) (fun _ _ => ?_) ?_
  · rw [decide_eq_false (by omega), decide_eq_false (by omega)]; rfl
  · have : (9007199254740 : Int) ≤ (2 ^ 63 - 1) / n := by
      rw [Int.le_ediv_iff_mul_le (by omega)]
      omega
    omega
  · have z : ¬ a.length * n.toNat > sizeLine := by rw [sizeLine_eq]; omega
    first
      | exact decide_eq_false z
      | (unfold Builtin.Str.tooLong; exact decide_eq_false z)
      | (unfold tooLong; exact decide_eq_false z)
  · have tl : Builtin.Str.tooLong (a.length * n.toNat) = false := by
      have z : ¬ a.length * n.toNat > sizeLine := by rw [sizeLine_eq]; omega
      exact decide_eq_false z
    unfold strRep at q
    by_cases c1 : n < 1
    · rw [if_pos c1] at q ⊢
      exact ⟨by decide, ⟨.str Str.empty, H, I.tok _, ⟨_, rfl⟩, q⟩⟩
    · rw [if_neg c1] at q ⊢
      by_cases c2 : (n == 1 || a.length == 0) = true
      · rw [if_pos c2] at q ⊢
        exact ⟨.str a, H, I, ⟨_, rfl⟩, q⟩
      · rw [if_neg c2] at q ⊢
        exact ⟨fits_reps tl, ⟨.str ⟨(List.replicate n.toNat a.cps).foldl (· ++ ·) #[]⟩, H, I.tok _, ⟨_, rfl⟩, q⟩⟩
theorem x_strRep {i : β1 → Str} {j : β1 → β2 → Int} (ha : PE X a (tE W F Γ Δ T k1 (fun b => pStr (i b)) Δ1)) (hb : ∀ b1, PE X b (tE W F Γ (Δ1 b1) (k1 b1) (fun b2 => grd (repOk (i b1) (j b1 b2) = true) (k (b1, b2))) (fun b => pInt (j b1 b)) (Δ2 b1))) :
    PE X (.BinOp a .Mult b pos) (tE W F Γ Δ T k (fun b => pStr (strRep (i b.1) (j b.1 b.2))) fun b => Δ2 b.1 b.2) :=
  x2g (b_op op_strRep) ha hb fun b1 b2 _ v w H Q _ c hv hw q => ⟨i b1, j b1 b2, hv, hw, c, q _ rfl⟩
end
end
end L3
end
section
set_option Elab.async false
set_option linter.all false
set_option maxRecDepth 100000
set_option maxHeartbeats 4000000
set_option autoImplicit true
namespace L3
open PySem PySem.Spec PyProof.Rows L2 PySem.SxX
/-- None or a thing -/
def dgOp {α : Type} {E : α → Pd} [DecidableEq α] (d : Dg E) (hn : ∀ x, PyData.eqv .none (d.toD x) = false ∧ PyData.eqv (d.toD x) .none = false) : Dg (pOp E) := ⟨fun x => match x with
  | none => .none
  | some y => d.toD y, fun {K H v x} h => by
    cases x with
    | none => rw [show v = .non from h]; exact .non
    | some y => exact d.dp h, d.dep, fun x => match x with
  | none => true
  | some y => d.ok y, fun x h => by
    cases x with
    | none => rfl
    | some y => exact d.can y h, fun x => by
    cases x with
    | none => exact Nat.zero_le _
    | some y => exact d.deep y, fun x y => by
    cases x with
    | none => cases y with
      | none => rfl
      | some y => simpa using (hn y).1
    | some x => cases y with
      | none => simpa using (hn x).2
      | some y => show PyData.eqv (d.toD x) (d.toD y) = _; rw [d.eq]; simp⟩
section
variable {X : Cx} {W : Bool} {F : Fm} {Γ : Gm} {Δ : Δs} {γ : Type} {P : Program} {rs cs : List Str}
/-- the classes of a tuple of classes, by their names -/
theorem c_nil {T : Option γ} {mg : Str → Option Value} : PA X [] (tAr W F Γ Δ T (fun _ : Unit => T) (fun _ => ([] : List Str).map fun y => pV (clsW mg y)) fun _ => Δ) := b_nil
theorem c_cons {T : Option γ} {y : Str} {ys : List Str} {es : List Expr} {pos : Pos} (Tx : XsT P X.K X.mg rs cs) (hy : y ∈ cs) (h : PA X es (tAr W F Γ Δ T (fun _ : Unit => T) (fun _ => ys.map fun y => pV (clsW X.mg y)) fun _ => Δ)) (hg : Gl X y := by rfl) (hd : (y == ("__debug__" : Str)) = false := by decide) (hn : y ≠ "__name__" := by decide)
    (hs : starEach (.Name y pos :: es) X.env = (false, eval (.Name y pos) X.env) :: starEach es X.env := by rfl) : PA X (.Name y pos :: es) (tAr W F Γ Δ T (fun _ : Unit => T) (fun _ => (y :: ys).map fun y => pV (clsW X.mg y)) fun _ => Δ) :=
  (a_cons (β1 := Unit) (β2 := Unit) (k1 := fun _ => T) (k := fun _ => T) (Es := fun _ _ => ys.map fun y => pV (clsW X.mg y)) (Δ1 := fun _ => Δ) (Δ2 := fun _ _ => Δ) (y_cls (pos := pos) Tx hy hg hd hn) (fun _ => h) hs).wk fun σ H Q ⟨ok, g, e, q⟩ => ⟨ok, g, e, fun b v H' kb f ok' hv => q () v H' kb f ok' (by cases b; exact hv)⟩
variable {a : Addr} {oe : Obj} {cls : Value} {d : Option Addr} {pn : List (Addr × Obj)} {e : Er}
theorem x_isEC {β : Type} {T0 : Option γ} {k : β → Option γ} {Δ1 : β → Δs} {ne : Expr} {es : List Expr} {p1 p2 pos : Pos} {x1} (ys : List Str) (hz : Zc cls d oe) (hf : ∃ vs, oe.data = .fields vs) (T : XsT P X.K X.mg rs cs) (hy : ∀ y ∈ ys, y ∈ cs) (hyn : ys ≠ []) (hm : X.mg "isinstance" = none) (h1 : PE (X.suite a ((a, oe) :: pn)) ne (tE W F Γ Δ T0 k (fun _ => pExc (erX X.mg rs) a cls d e) Δ1))
    (h2 : ∀ b, PA (X.suite a ((a, oe) :: pn)) es (tAr W F Γ (Δ1 b) (k b) (fun _ : Unit => k b) (fun _ => ys.map fun y => pV (clsW X.mg y)) fun _ => Δ1 b)) (hl : ys.length ≤ 1000 := by decide) (hg : Gl X "isinstance" := by rfl) (hs : starEach [ne, .Tuple es x1 p2] X.env = (false, eval ne X.env) :: starEach [.Tuple es x1 p2] X.env := by rfl) (hs2 : starEach [.Tuple es x1 p2] X.env = (false, eval (.Tuple es x1 p2) X.env) :: starEach [] X.env := by rfl) (hpl : (backTo pos (starEach [.Tuple es x1 p2] X.env)).any (·.1) = false := by rfl) :
    PE (X.suite a ((a, oe) :: pn)) (.Call (.Name "isinstance" p1) [ne, .Tuple es x1 p2] [] pos) (tE W F Γ Δ T0 k (fun _ => pBl (ys.any (subC e.cn))) Δ1) :=
  x_isET ys hz hf T hy hyn hm h1 (fun b => x_tups (h2 b) (by rw [List.length_map]; exact hl)) hg hs hs2 hpl
theorem x_tp2 {a b : Expr} {x1} {pos : Pos} {α1 α2 β : Type} {T : Option γ} {k : β → Option γ} {Δ1 : β → Δs} (E1 : α1 → Pd) (E2 : α2 → Pd) (x : β → α1) (y : β → α2) (ha : PA X [a, b] (tAr W F Γ Δ T k (fun b => [E1 (x b), E2 (y b)]) Δ1)) :
    PE X (.Tuple [a, b] x1 pos) (tE W F Γ Δ T k (fun b => pT2 E1 E2 (x b, y b)) Δ1) := x_tup2 ha E1 E2 x y (fun _ => rfl) (fun _ => rfl)
theorem pa_kd {β : Type} {es : List Expr} {T : Option γ} {k : β → Option γ} {E E' : β → List Pd} {Δ' : β → Δs} (h : PA X es (tAr W F Γ Δ T k E' Δ')) (hE : ∀ b, E b = E' b := by intro _; rfl) : PA X es (tAr W F Γ Δ T k E Δ') := by
  have e1 : E = E' := funext hE
  subst e1
  exact h
end
end L3
end
section
set_option Elab.async false
set_option linter.all false
set_option maxRecDepth 100000
set_option maxHeartbeats 4000000
set_option autoImplicit true
/-! what the head says of the classes of errors -/
namespace L3
open PySem PySem.Spec PyProof.Rows L2 PySem.SxX
open He (ga ma eqO eqO_ok ba)
/-- a class of errors: its name, its __init__, its fields -/
structure XD where
  name : Str
  qual : Str
  params : Arguments
  body : List Stmt
  scope : Scope
  ps : List Str
abbrev FnX : Type := Option (Str × Str × Arguments × FuncBody × Scope × Addr × List Str × Addr)
def iAd (K : PySem.W.Frag) (x : Str) : Addr := ma K (ga K x) "__init__"
def fnXo (K : PySem.W.Frag) (x : Str) : FnX := match K.lookup (iAd K x) with
  | some ⟨_, _, .func fd, _⟩ => some (fd.name, fd.qualname, fd.params, fd.body, fd.scope, fd.globals, fd.closure.map (·.1), fd.builtins)
  | _ => none
def XD.val (d : XD) : FnX := some ("__init__", d.qual, d.params, .stmts d.body, d.scope, mainGlobals, ["__class__"], builtinsNs)
def clsXB (K : PySem.W.Frag) (C : Addr) : Bool := match K.lookup C with
  | some ⟨.type "type", _, .cls cd, sl⟩ => (match cd.mro, sl.toList with
    | .ref C' :: bm, [_, _, _, _, some (.builtin n), _] => C' == C && n == "ValueError.__new__" && !cd.hasDel && cd.hasDict && PySem.HandSPX.refsVE bm
    | _, _ => false)
  | _ => false
theorem clsXB_ok {K : PySem.W.Frag} {C : Addr} (q : clsXB K C = true) : ∃ nm q N bs bm sn sub ab col dd k0 k1 k2 k3 k5, K.lookup C = some (excClassObj nm q C N bs bm true sn sub ab col dd k0 k1 k2 k3 k5 "ValueError.__new__") ∧ PySem.HandSPX.refsVE bm = true := by
  unfold clsXB at q
  split at q
  · rename_i dd cd sl ho
    split at q
    · rename_i C' bm k0 k1 k2 k3 n k5 hm hs
      simp only [Bool.and_eq_true, beq_iff_eq, Bool.not_eq_true'] at q
      obtain ⟨⟨⟨⟨rfl, rfl⟩, hdel⟩, hdi⟩, ht⟩ := q
      obtain ⟨nm, bs, mro, ns, qn, hd, sn, sub, ab, col, del⟩ := cd
      dsimp only at hm hdel hdi
      subst hm hdel hdi
      have hsl : sl = #[k0, k1, k2, k3, some (.builtin "ValueError.__new__"), k5] := by
        obtain ⟨l⟩ := sl
        simp only at hs
        rw [hs]
      subst hsl
      exact ⟨nm, qn, ns, bs, bm, sn, sub, ab, col, dd, k0, k1, k2, k3, k5, ho, ht⟩
    · cases q
  · cases q
/-- the parts of the __init__ that hang on the run -/
def iniXB (P : Program) (K : PySem.W.Frag) (C fI : Addr) (q : Str) : Bool := match K.lookup fI with
  | some ⟨_, _, .func fd, _⟩ => (match fd.defaults, fd.kwdefaults, fd.code, fd.closure with
    | .none, .none, .ref cda, [(_, cc)] => PySem.W.codeIn K (.ref cda) q && ((match K.lookup cda with
      | some ⟨_, _, .fields vs, _⟩ => (match ((vs : Array Value)[2]? : Option Value) with
        | some (.str file _) => (P.main.file : Str) == file
        | _ => false)
      | _ => false) && (match K.lookup cc with
      | some ⟨_, _, .cell (some (.ref C')), _⟩ => C' == C
      | _ => false))
    | _, _, _, _ => false)
  | _ => false
def XD.ok (P : Program) (K : PySem.W.Frag) (d : XD) : Bool :=
  clsXB K (ga K d.name) && (eqO (PySem.W.findIn K (.ref (ga K d.name)) "__setattr__") (some (some (.builtin "object.__setattr__"))) && ((d.ps.all fun f => eqO (PySem.W.findIn K (.ref (ga K d.name)) f) (some none)) && (eqO (PySem.W.findIn K (.ref (ga K d.name)) "__init__") (some (some (.ref (iAd K d.name)))) &&
  (decide (PySem.W.typeIn K (.ref (iAd K d.name)) = some (.type "function")) && (PySem.W.keepIn K (.ref (ga K d.name)) && (decide (PySem.W.subIn K (.ref (ga K d.name)) (.type "BaseException") = some true) && (decide (PySem.W.subIn K (.ref (ga K d.name)) (.type "ValueError") = some true) &&
  (decide (PySem.W.typeIn K (.ref (ga K d.name)) = some (.type "type")) && (eqO (PySem.W.ks_superIn K (ga K d.name) (ga K d.name) "__init__") (some (some (.builtin "ValueError.__init__"))) && (eqO (PySem.W.nsIn K cStatics "thirdparty.any") (some none) && (iniXB P K (ga K d.name) (iAd K d.name) d.qual &&
  (eqO (PySem.W.findIn K (.ref (ga K d.name)) "__getattribute__") (some (some (.builtin "BaseException.__getattribute__"))) && (eqO (PySem.W.findIn K (.ref (ga K d.name)) "__getattr__") (some none) && (PySem.W.hasDictIn K (ga K d.name) && (eqO (PySem.W.findIn K (.ref (ga K d.name)) "__class__") (some (some (.builtin "object.__class__"))) &&
  (eqO (PySem.W.specialIn K (.builtin "object.__class__") "__get__") (some (some (.builtin "getset_descriptor.__get__"))) && (decide (PySem.W.takesIn K (.builtin "object.__class__") = some true) && decide (PySem.W.mroIn K (ga K d.name) (.type "object") = some true))))))))))))))))))
/-- the text of the __init__ -/
structure XTx (P : Program) (d : XD) : Prop where
  few : d.ps.length ≤ 900
  top : (P.main.scope.names.lookup ("super" : Str)).isSome = false
  tx : ∃ (ar : Arg) (text : Str) (kk : Nat) (q0 q1 q2 q3 q4 q5 : Pos) (stores : List Stmt), d.body = .Expr (.Call (.Attribute (.Call (.Name "super" q1) [] [] q2) "__init__" q3) [.Constant (.str text) kk q0] [] q4) q5 :: stores ∧ Stores stores d.ps ∧
    (d.params.posonlyargs ++ d.params.args).head? = some ar ∧ ar.arg = "self" ∧ (q3.endLine == q4.line) = true
  s1 : d.scope.names.lookup ("super" : Str) = some .globalImplicit
  s2 : d.scope.names.lookup ("__class__" : Str) = some .free
  s3 : d.scope.names.lookup ("self" : Str) = some .local
  s4 : ∀ f ∈ d.ps, d.scope.names.lookup f = some .local
  s5 : d.scope.kind = .function
  s6 : d.scope.isCoroutine = false
  s7 : d.scope.isGenerator = false
  s8 : ∀ x ∈ d.scope.names, x.2 ≠ .cell
  nd : (("self" : Str) :: d.ps).Nodup
  bi : ∀ (doc pm : Value) (an : Option Addr) (cda ct : Value) (cc : Addr) (us : List Value), us.length = d.ps.length + 1 → bindArgs (PySem.W.ksFn "__init__" d.qual d.params d.body d.scope .none .none doc pm an cda ct cc) ⟨us, []⟩ = pure ((("self" : Str) :: d.ps).zip us)
theorem XD.sx {P : Program} {K : PySem.W.Frag} {d : XD} (e : fnXo K d.name = d.val) (c : d.ok P K = true) (t : XTx P d) : SxTxt P K (ga K d.name) (iAd K d.name) d.ps ∧ ExcC K (ga K d.name) ∧ XfC K (ga K d.name) := by
  obtain ⟨c1, c⟩ := ba c
  obtain ⟨c2, c⟩ := ba c
  obtain ⟨c3, c⟩ := ba c
  obtain ⟨c4, c⟩ := ba c
  obtain ⟨c5, c⟩ := ba c
  obtain ⟨c6, c⟩ := ba c
  obtain ⟨c7, c⟩ := ba c
  obtain ⟨c8, c⟩ := ba c
  obtain ⟨c9, c⟩ := ba c
  obtain ⟨c10, c⟩ := ba c
  obtain ⟨c11, c⟩ := ba c
  obtain ⟨c12, c⟩ := ba c
  obtain ⟨c13, c⟩ := ba c
  obtain ⟨c14, c⟩ := ba c
  obtain ⟨c15, c⟩ := ba c
  obtain ⟨c16, c⟩ := ba c
  obtain ⟨c17, c⟩ := ba c
  obtain ⟨c18, c19⟩ := ba c
  refine ⟨⟨clsXB_ok c1, eqO_ok c2, fun f hf => eqO_ok (List.all_eq_true.mp c3 f hf), eqO_ok c4, of_decide_eq_true c5, c6, of_decide_eq_true c7, of_decide_eq_true c8, of_decide_eq_true c9, eqO_ok c10, eqO_ok c11, t.few, t.top, ?_⟩, ⟨eqO_ok c13, eqO_ok c14, of_decide_eq_true c7, c15, eqO_ok c16, eqO_ok c17, of_decide_eq_true c18, of_decide_eq_true c19⟩, ⟨eqO_ok c13, eqO_ok c14, of_decide_eq_true c7, c15⟩⟩
  obtain ⟨ar, text, kk, q0, q1, q2, q3, q4, q5, stores, eb, st, ha, hs, hl⟩ := t.tx
  have bi := t.bi
  obtain ⟨dn, dq, dp, db, ds, dps⟩ := d
  dsimp only at *
  subst eb
  unfold fnXo XD.val at e
  unfold iniXB at c12
  dsimp only at e c12
  cases q : K.lookup (iAd K dn) with
  | none => rw [q] at c12; cases c12
  | some o =>
    obtain ⟨oc, od, dt, osl⟩ := o
    rw [q] at c12 e
    cases dt with
    | func fd =>
      obtain ⟨n1, n2, n3, n4, n5, n6, n7, n8, n9, n10, n11, n12, n13, n14, n15⟩ := fd
      simp only [Option.some.injEq, Prod.mk.injEq] at e
      obtain ⟨h1, h2, h3, h4, h5, h6, h7, h8⟩ := e
      subst h1 h2 h3 h4 h5 h6 h8
      dsimp only at c12
      cases n8 with
      | none =>
        cases n9 with
        | none =>
          cases n13 with
          | ref cda =>
            match n7, h7, c12 with
            | [(nm, cc)], h7, c12 =>
              have h7 : [nm] = [("__class__" : Str)] := h7
              obtain rfl : nm = ("__class__" : Str) := (List.cons.inj h7).1
              obtain ⟨k1, k2⟩ := ba c12
              obtain ⟨k2, k3⟩ := ba k2
              split at k2
              · rename_i ccl cdd vs ccs hk
                split at k2
                · rename_i file tf hv
                  split at k3
                  · rename_i cl cld C' csl hc
                    have eC : C' = ga K dn := beq_iff_eq.mp k3
                    subst eC
                    exact ⟨oc, od, n10, n11, n12, cda, n14, osl, cc, _, _, ar, text, kk, q0, q1, q2, q3, q4, q5, stores, _, ccl, cdd, vs, ccs, file, tf, cl, cld, csl, rfl, k1, st, ha, hs, hk, hv, k2, hl, hc, t.s1, t.s2, t.s3, t.s4, t.s5, t.s6, t.s7, t.s8, t.nd, fun s us hl => .of_eq (bi _ _ _ _ _ _ us hl)⟩
                  · cases k3
                · cases k2
              · cases k2
            | [], _, c12 => cases c12
            | _ :: _ :: _, _, c12 => cases c12
          | _ => cases c12
        | _ => cases c12
      | _ => cases c12
    | _ => cases c12
/-- a class as isinstance and except read it -/
def cU (K : PySem.W.Frag) (y : Str) : Value := if y = "ValueError" then .type "ValueError" else .ref (ga K y)
def tabB (K : PySem.W.Frag) (rs cs : List Str) : Bool := rs.all fun x => cs.all fun y => decide (PySem.W.kitOne K (.ref (ga K x)) (cU K y) = some (subC x y)) && decide (PySem.W.exmOne K (.ref (ga K x)) (cU K y) = some (subC x y))
/-! ### the Hook -/
abbrev AlX : Type := He.AlD × List FnX × Bool
def obsX (P : Program) (fa : List He.Fa) (fn : List He.DefD) (xs : List XD) (rs cs : List Str) (K : PySem.W.Frag) : AlX := (He.obsD fa fn K, xs.map fun d => fnXo K d.name, (xs.all fun d => d.ok P K) && tabB K rs cs)
def valX (fn : List He.DefD) (xs : List XD) : AlX := (He.valD fn, xs.map XD.val, true)
def SaysX (P : Program) (fa : List He.Fa) (fn : List He.DefD) (xs : List XD) (rs cs : List Str) (K : PySem.W.Frag) : Prop := obsX P fa fn xs rs cs K = valX fn xs
def obsXG (n : Nat) (P : Program) (fa : List He.Fa) (fn : List He.DefD) (xs : List XD) (rs cs : List Str) (g : Addr → Option Obj) : AlX := obsX P fa fn xs rs cs (He.frG g (cStatics :: He.asD g n))
def hookX (n : Nat) (P : Program) (fa : List He.Fa) (fn : List He.DefD) (xs : List XD) (rs cs : List Str) : PySem.W.Hook where
  α := AlX
  obs := fun s => obsXG n P fa fn xs rs cs s.heap.get?
  val := fun _ => valX fn xs
  says := fun _ h => ∃ K : PySem.W.Frag, K.In h ∧ SaysX P fa fn xs rs cs K
  of := fun _ _ e => ⟨_, He.frG_in, e⟩
  keeps := fun _ _ _ ⟨K, hK, c⟩ k => ⟨K, PySem.W.Frag.In.keeps hK k, c⟩
theorem obsXG_eq {n : Nat} {P : Program} {fa : List He.Fa} {fn : List He.DefD} {xs : List XD} {rs cs : List Str} {g : Addr → Option Obj} {s : Shared} (h : ∀ a, g a = s.heap.get? a) : obsXG n P fa fn xs rs cs g = (hookX n P fa fn xs rs cs).obs s := by
  have e : g = s.heap.get? := funext h
  rw [e] <;> rfl
section
variable {P : Program} {fa : List He.Fa} {fn : List He.DefD} {xs : List XD} {rs cs : List Str} {K : PySem.W.Frag}
theorem SaysX.d (c : SaysX P fa fn xs rs cs K) : He.SaysD fa fn K := congrArg (fun z : AlX => z.1) c
theorem SaysX.xc {mg : Str → Option Value} (c : SaysX P fa fn xs rs cs K) (i : Nat) {d : XD} (h : xs[i]? = some d) (t : XTx P d) (hg : mg d.name = some (.ref (ga K d.name))) (hp : d.ps = fieldsOf d.name) : XcT P K mg d.name := by
  have c2 := (ba (show ((xs.all fun d => d.ok P K) && tabB K rs cs) = true from congrArg (fun z : AlX => z.2.2) c)).1
  have e : xs.map (fun d => fnXo K d.name) = xs.map XD.val := congrArg (fun z : AlX => z.2.1) c
  have e2 : (xs.map fun d => fnXo K d.name)[i]? = (xs.map XD.val)[i]? := by rw [e]
  rw [List.getElem?_map, List.getElem?_map, h] at e2
  obtain ⟨z1, z2, z3⟩ := XD.sx (Option.some.inj e2) (List.all_eq_true.mp c2 d (List.mem_of_getElem? h)) t
  have eg : gaM mg d.name = ga K d.name := by unfold gaM; rw [hg]
  exact ⟨by rw [eg]; exact hg, ⟨_, by rw [eg, ← hp]; exact z1⟩, by rw [eg]; exact z2, by rw [eg]; exact z3⟩
theorem SaysX.xst {mg : Str → Option Value} (c : SaysX P fa fn xs rs cs K) (hsup : mg "super" = none) (hx : ∀ x ∈ rs, XcT P K mg x) (hr : ∀ x ∈ rs, mg x = some (.ref (ga K x))) (hc : ∀ y ∈ cs, y = "ValueError" ∧ mg y = none ∨ y ≠ "ValueError" ∧ mg y = some (.ref (ga K y))) : XsT P K mg rs cs := by
  have c2 := (ba (show ((xs.all fun d => d.ok P K) && tabB K rs cs) = true from congrArg (fun z : AlX => z.2.2) c)).2
  have eg : ∀ x, mg x = some (.ref (ga K x)) → gaM mg x = ga K x := fun x h => by unfold gaM; rw [h]
  have eu : ∀ y ∈ cs, clsU mg y = cU K y := fun y hy => by
    unfold clsU cU
    rcases hc y hy with ⟨e, h⟩ | ⟨e, h⟩
    · rw [h, if_pos e]
    · rw [h, if_neg e]
  have tb : ∀ x ∈ rs, ∀ y ∈ cs, PySem.W.kitOne K (.ref (gaM mg x)) (clsU mg y) = some (subC x y) ∧ PySem.W.exmOne K (.ref (gaM mg x)) (clsU mg y) = some (subC x y) := fun x hx y hy => by
    rw [eg x (hr x hx), eu y hy]
    obtain ⟨a, b⟩ := ba (List.all_eq_true.mp (List.all_eq_true.mp c2 x hx) y hy)
    exact ⟨of_decide_eq_true a, of_decide_eq_true b⟩
  refine ⟨hsup, hx, fun y hy => ?_, fun x hx y hy => (tb x hx y hy).1, fun x hx y hy => (tb x hx y hy).2⟩
  rcases hc y hy with h | ⟨_, h⟩
  · exact .inl h
  · exact .inr (by rw [eg y h]; exact h)
end
end L3
end
section
set_option Elab.async false
set_option linter.all false
set_option maxRecDepth 100000
set_option maxHeartbeats 4000000
set_option autoImplicit true
namespace L3
open PySem PySem.Spec PyProof.Rows L2
/-! ### [new thing for x in xs] -/
def lcM {α δ : Type} : List α → List δ → (α → Option δ) → Option (List δ)
  | [], acc, _ => some acc
  | x :: xs, acc, f => (f x).bind fun y => lcM xs (acc ++ [y]) f
section
variable {X : Cx} {F : Fm} {Γ : Gm} {Δ : Δs} {γ : Type}
variable {α β β3 δ : Type} {g : TG} {own : List (Str × Nat)} {T : Option γ} {k : β × List δ → Option γ} {Ex : α → Pd} {D : δ → Od} {bd : Gm → α → Gm} {xs : β → List α} {Δ1 : β → Δs} {f : β → α → Option δ} {y : β → α → β3 → δ}
abbrev lcOE (F : Fm) (Γ : Gm) (own : List (Str × Nat)) (bd : Gm → α → Gm) (C : β → Δs) (f : β → α → Option δ) (D : δ → Od) (y : β → α → β3 → δ) : TE := fun σ H Q => ∃ d b x, tO true F (bd (wipeG Γ (own.map (·.2))) x) (C b ++ [d]) (f b x) (fun b3 => some (y b x b3)) (fun b3 => D (y b x b3)) (fun _ => C b ++ [d]) σ H Q
theorem lcO_imp (ht : TgtW g Ex bd (own.map (·.2))) :
    ∀ σ H Q, tO true F Γ Δ T k (fun b => oLO D b.2) (fun b => Δ1 b.1) σ H Q → tLc (tI true F Γ Δ T (fun b => (lcM (xs b) [] (f b)).bind fun r => k (b, r)) Ex xs Δ1) g (fun σ H Q => Q true H) (lcOE F Γ own bd Δ1 f D y) (own.map (·.2)) σ H Q :=
  fun σ H Q ⟨ok0, gg, e, q⟩ => ⟨ok0, gg, e, fun b J H1 kb f1 ok1 zl wk Da nD => by
    obtain ⟨r, er, kr⟩ := bind_some kb
    have grD : Gr H1 (upd H1 Da (.lst [])) := Gr.new nD
    have hk0 : Hk F (Δ1 b ++ [⟨.ref Da, oLO D [], none⟩]) (upd H1 Da (.lst [])) :=
      (ok1.add (W := true) grD (G := [Da]) (v := .ref Da) (d := oLO D []) (List.nodup_cons.mpr ⟨List.not_mem_nil, List.nodup_nil⟩) (fun a ha => by rw [List.mem_singleton.mp ha]; exact nD) ⟨Da, [], [], rfl, rfl, upd_same, Nat.zero_le _, .nil⟩).ok.hk.perm (List.perm_append_singleton _ _).symm
    refine ⟨fun i m H' => i + m = (xs b).length ∧ St true H1 H' ∧ ∃ acc, acc.length ≤ i ∧ Hk F (Δ1 b ++ [⟨.ref Da, oLO D acc, none⟩]) H' ∧ lcM ((xs b).drop i) acc (f b) = some r, ⟨(xs b).length, Nat.zero_add _, grD.st, [], Nat.le_refl _, hk0, by rw [List.drop_zero]; exact er⟩, fun i m H2 ⟨em, st2, acc, la, hk2, ec⟩ => ?_⟩
    by_cases hi : i < (xs b).length
    · obtain ⟨x, hx, ed⟩ := drop_cons hi
      rw [ed] at ec
      obtain ⟨o, eo, ec⟩ := bind_some (show (f b x).bind _ = some r from ec)
      refine .inr ⟨((wk H2 st2.fz) i).1 hi, fun H' => (i + 1) + (m - 1) = (xs b).length ∧ St true H1 H' ∧ ∃ acc, acc.length ≤ i + 1 ∧ Hk F (Δ1 b ++ [⟨.ref Da, oLO D acc, none⟩]) H' ∧ lcM ((xs b).drop (i + 1)) acc (f b) = some r, fun H' h => ⟨m - 1, by omega, h⟩, fun v H3 hy => ?_⟩
      obtain ⟨gr3, pv⟩ := ((wk H2 st2.fz) i).2.2 x v H3 hx hy
      have st3 : St true H1 H3 := st2.trans gr3.st
      refine ht F Γ _ σ H3 x v _ (ok1.wipe st3.fz (hk2.gr gr3) _) pv fun σ4 ew ok4 => ⟨ew, iteT ⟨⟨.ref Da, oLO D acc, none⟩, b, x, ok4, o, eo, fun b3 w H6 kb3 st6 okn => ?_⟩⟩
      cases kb3
      have hlast : (Δ1 b ++ [⟨.ref Da, oLO D acc, none⟩])[(Δ1 b).length]? = some ⟨.ref Da, oLO D acc, none⟩ := by rw [List.getElem?_append_right (Nat.le_refl _), Nat.sub_self]; rfl
      obtain ⟨G2, Gn, ⟨p, vs, gs, eG, ev, hp, zz, o3⟩, pn, ndG, tr⟩ := okn.absorb hlast
      cases ev
      have eG : G2 = Da :: gs.flatten := eG
      subst eG
      have pG : Da ∉ gs.flatten := (List.nodup_cons.mp (List.nodup_append.mp ndG).1).1
      have pN : Da ∉ Gn := fun h => (List.nodup_append.mp ndG).2.2 Da List.mem_cons_self Da h rfl
      have fzm : Fzs H6 (upd H6 Da (.lst (vs ++ [w]))) := Fzs.mut hp fun z => z
      have kp : ∀ a o, a ≠ Da → H6 a = some o → upd H6 Da (.lst (vs ++ [w])) a = some o := fun a o na e => by rw [upd_ne na]; exact e
      have ndf : (Da :: (gs ++ [Gn]).flatten).Nodup := by
        rw [List.flatten_append, List.flatten_cons, List.flatten_nil, List.append_nil]
        exact ndG
      have kl : vs.length = acc.length := o3.len.symm
      have hlt : acc.length < sizeLine := by omega
      obtain ⟨ok3, fz3, dom3⟩ := tr (upd H6 Da (.lst (vs ++ [w]))) (oLO D (acc ++ [y b x b3])) (Da :: (gs ++ [Gn]).flatten) (fun a o na _ e => kp a o (fun z => na (by rw [z]; exact List.mem_cons_self)) e) (fun a ha => by
          have : ∃ o, H6 a = some o := by
            rcases ha with h | h
            · rcases List.mem_cons.mp h with e | h
              · rw [e]; exact ⟨_, hp⟩
              · obtain ⟨o, e, _⟩ := o3.cells a h; exact ⟨o, e⟩
            · obtain ⟨o, e, _⟩ := (D _).cells pn a h; exact ⟨o, e⟩
          obtain ⟨o, e⟩ := this
          exact upd_dom _ _ a o e) ndf (fun a ha => .inl (by
          rw [List.flatten_append, List.flatten_cons, List.flatten_nil, List.append_nil] at ha
          rcases List.mem_cons.mp ha with e | ha
          · exact .inl (by rw [e]; exact List.mem_cons_self)
          · rcases List.mem_append.mp ha with h | h
            · exact .inl (List.mem_cons_of_mem _ h)
            · exact .inr h)) ⟨Da, vs ++ [w], gs ++ [Gn], rfl, rfl, upd_same, by rw [List.length_append, List.length_singleton]; omega, (o3.frame fzm fun a ha o e => kp a o (fun z => pG (by rw [← z]; exact ha)) e).app ((D _).frame pn (fun a ha o e => kp a o (fun z => pN (by rw [← z]; exact ha)) e) fzm)⟩
      refine ⟨vs, hp, by rw [kl]; exact hlt, by omega, (st3.trans st6).trans ⟨fz3, (fun h => nomatch h), dom3⟩, acc ++ [y b x b3], by rw [List.length_append, List.length_singleton]; omega, ?_, ec⟩
      have hk7 := ok3.hk
      rw [List.set_append_right _ _ (Nat.le_refl _), Nat.sub_self] at hk7
      exact hk7
    · refine .inl ⟨((wk H2 st2.fz) i).2.1 (by omega), ?_⟩
      rw [List.drop_eq_nil_of_le (by omega)] at ec
      have ec : some acc = some r := ec
      cases ec
      have hkf := hk2.perm (List.perm_append_singleton _ _)
      exact q (b, r) _ H2 kr (f1.trans st2) (Hk.oneD hkf (ok1.nm.mono st2.fz))⟩
theorem x_lcO {elt tg iter : Expr} {scope : Scope} {pos : Pos} (nd : X.N.Nodup) (hi : PI X tg iter (tI true F Γ Δ T (fun b => (lcM (xs b) [] (f b)).bind fun r => k (b, r)) Ex xs Δ1)) (ok : BlkOk X.N X.env.scope scope own) (hg : Blk X scope fun Y => PG Y tg g) (ht : TgtW g Ex bd (own.map (·.2)))
    (he : ∀ d, Blk X scope fun Y => ∀ b x, PE Y elt (tO true F (bd (wipeG Γ (own.map (·.2))) x) (Δ1 b ++ [d]) (f b x) (fun b3 => some (y b x b3)) (fun b3 => D (y b x b3)) fun _ => Δ1 b ++ [d]))
    (hcm : X.calm = true := by rfl) (hs : ∀ x, foldedSetIterable iter X.env x = pure x := by intro _; rfl) :
    PE X (.ListComp elt [⟨tg, iter, [], 0⟩] scope pos) (tO true F Γ Δ T k (fun b => oLO D b.2) fun b => Δ1 b.1) :=
  (pe_lc hcm nd hi ok hg (tt := fun σ H Q => Q true H) (fun _ _ _ _ _ => pts_nil) (te := lcOE F Γ own bd Δ1 f D y) (fun s H Cc cl fp => ⟨fun pins s' σ H Q I ⟨d, b, x, h⟩ => (he d s _ Cc cl fp b x).run pins s' σ H Q I h⟩) hs).wk (lcO_imp ht)
theorem a_lcO {elt tg iter : Expr} {scope : Scope} {pos py spos : Pos} {i : Nat} {yv : Str} (nd : X.N.Nodup) (hi : PI X tg iter (tI true F Γ Δ T (fun b => (lcM (xs b) [] (f b)).bind fun r => k (b, r)) Ex xs Δ1)) (ok : BlkOk X.N X.env.scope scope own) (hg : Blk X scope fun Y => PG Y tg g) (ht : TgtW g Ex bd (own.map (·.2)))
    (he : ∀ d, Blk X scope fun Y => ∀ b x, PE Y elt (tO true F (bd (wipeG Γ (own.map (·.2))) x) (Δ1 b ++ [d]) (f b x) (fun b3 => some (y b x b3)) (fun b3 => D (y b x b3)) fun _ => Δ1 b ++ [d]))
    (hsw : swapsWith (.ListComp elt [⟨tg, iter, [], 0⟩] scope pos) (some (.Name yv py)) spos.line X.env = pure true) (hy : X.N[i]? = some yv := by rfl) (hyl : X.env.scope.names.lookup yv = some .local := by rfl) (hcm : X.calm = true := by rfl) (hs : ∀ x, foldedSetIterable iter X.env x = pure x := by intro _; rfl) :
    PS X (.Assign [.Name yv py] (.ListComp elt [⟨tg, iter, [], 0⟩] scope pos) spos) (tAsg (tO true F Γ Δ T k (fun b => oLO D b.2) fun b => Δ1 b.1) (gName i)) :=
  (ps_setLc hcm nd hy hyl hsw hi ok hg (tt := fun σ H Q => Q true H) (fun _ _ _ _ _ => pts_nil) (te := lcOE F Γ own bd Δ1 f D y) (fun s H Cc cl fp => ⟨fun pins s' σ H Q I ⟨d, b, x, h⟩ => (he d s _ Cc cl fp b x).run pins s' σ H Q I h⟩) hs).wk fun Dd σ H h => lcO_imp ht σ H _ h
end
/-! ### enumerate -/
def enumL {α : Type} (xs : List α) : List (Int × α) := xs.mapIdx fun i x => ((i : Int), x)
section
variable {X : Cx} {W : Bool} {F : Fm} {Γ : Gm} {Δ : Δs} {γ : Type}
theorem i_enum {l : Expr} {elts : List Expr} {kk : Nat} {p pos tpos : Pos} {α β : Type} {T : Option γ} {k : β → Option γ} {Ex : α → Pd} {xs : β → List α} {Δ' : β → Δs} (hm : X.mg "enumerate" = none) (he : PE X l (tE W F Γ Δ T k (fun b => pL Ex (xs b)) Δ')) (hg : Gl X "enumerate" := by rfl) (hs : starEach [l] X.env = [(false, eval l X.env)] := by rfl) :
    PI X (.Tuple elts kk tpos) (.Call (.Name "enumerate" p) [l] [] pos) (tI W F Γ Δ T k (pT2 pInt Ex) (fun b => enumL (xs b)) Δ') :=
  (pi_enum hg hm (pa_cons he pa_nil hs) hs).wk fun σ H R ⟨ok, g, e, q⟩ => ⟨ok, g, e, fun b v H' kb f ok' ⟨a, o, vs, ev, h, z, p⟩ => ⟨a, vs, by rw [ev], .inl (.inr ⟨o, h⟩), q b _ H' kb f ok' (by unfold enumL; rw [List.length_mapIdx]; exact z) fun H2 f2 i => by
    have h2 : SqL X.K H2 a vs := .inl (.inr ⟨o, f2 _ _ trivial h⟩)
    have hl : (enumL (xs b)).length = (xs b).length := List.length_mapIdx
    rw [hl]
    refine ⟨fun hi => ?_, fun hi => ⟨vs, h2, by rw [← paired_len p]; exact hi⟩, fun x v H3 hx hy => ?_⟩
    · obtain ⟨u, hu, _⟩ := paired_at p (List.getElem?_eq_getElem hi)
      exact ⟨vs, u, h2, hu⟩
    · obtain ⟨T, u, rfl, nT, rfl, hy⟩ := hy
      unfold enumL at hx
      rw [List.getElem?_mapIdx, Option.map_eq_some_iff] at hx
      obtain ⟨m, hm, rfl⟩ := hx
      obtain ⟨u', hu, pu⟩ := paired_at p hm
      have e4 := hy vs h2
      rw [hu] at e4
      cases e4
      have g' : Gr H2 (upd H2 T (.tup [.int (i : Nat), u])) := Gr.new nT
      exact ⟨g', ⟨T, _, _, rfl, upd_same, rfl, (Ex m).mono (f2.trans g'.fzs) pu⟩⟩⟩⟩
/-! ### a <= b < c, of whole numbers that are known -/
theorem t_chainI {a b c : Expr} {pos : Pos} {i j l : Int} (ha : ∀ {T : Option γ}, PE X a (tE W F Γ Δ T (fun _ : Unit => T) (fun _ => pInt i) fun _ => Δ)) (hb : ∀ {T : Option γ}, PE X b (tE W F Γ Δ T (fun _ : Unit => T) (fun _ => pInt j) fun _ => Δ)) (hc : ∀ {T : Option γ}, PE X c (tE W F Γ Δ T (fun _ : Unit => T) (fun _ => pInt l) fun _ => Δ)) {T : Option γ}
    (hm : lastMarks [CmpOp.LtE, .Lt] [b, c] = false := by with_unfolding_all rfl) : PT X (.Compare a [.LtE, .Lt] [b, c] pos) (tTs W F Γ Δ T (fun _ : Unit => T) (fun _ => decide (i ≤ j) && decide (j < l)) fun _ => Δ) :=
  (pt_chain op_le op_lt ha hb hc hm).wk fun σ H Q ⟨ok, g, e, q⟩ => ⟨ok, g, e, fun _ v H1 k1 f1 ok1 hv => ⟨ok1, g, k1, fun _ u H2 k2 f2 ok2 hu => ⟨i, j, hv, hu, decide (i ≤ j), rfl, by
    by_cases h : decide (i ≤ j) = true
    · rw [if_pos h]
      exact ⟨ok2, g, k2, fun _ w H3 k3 f3 ok3 hw => ⟨j, l, hu, hw, decide (j < l), rfl, by
        have := q () H3 k3 ((f1.trans f2).trans f3) ok3
        rw [h, Bool.true_and] at this
        exact this⟩⟩
    · rw [if_neg h]
      refine ⟨false, rfl, ?_⟩
      have := q () H2 k2 (f1.trans f2) ok2
      rw [Bool.eq_false_iff.mpr h, Bool.false_and] at this
      exact this⟩⟩⟩
/-! ### three in a tuple -/
theorem x_tp3 {a b c : Expr} {x1} {pos : Pos} {α1 α2 α3 β : Type} {T : Option γ} {k : β → Option γ} {Δ1 : β → Δs} (E1 : α1 → Pd) (E2 : α2 → Pd) (E3 : α3 → Pd) (x : β → α1) (y : β → α2) (z : β → α3) (ha : PA X [a, b, c] (tAr W F Γ Δ T k (fun b => [E1 (x b), E2 (y b), E3 (z b)]) Δ1)) :
    PE X (.Tuple [a, b, c] x1 pos) (tE W F Γ Δ T k (fun b => pT3 E1 E2 E3 (x b, y b, z b)) Δ1) :=
  (pe_tup ha).wk fun σ H Q ⟨ok, g, e, w⟩ => ⟨ok, g, e, fun b vs H' kb f ok' hp => by
    obtain ⟨u1, u2, u3, e, r1, r2, r3⟩ := paired3 (show Paired (fun p v => Pd.pr p H' v) [E1 (x b), E2 (y b), E3 (z b)] vs from hp)
    subst e
    refine ⟨by show 3 ≤ sizeLine; decide, fun t nt => ?_⟩
    have g' : Gr H' (upd H' t (.tup [u1, u2, u3])) := Gr.new nt
    exact w b _ _ kb (f.trans g'.st) (ok'.gr g') ⟨t, u1, u2, u3, rfl, upd_same, (E1 _).mono g'.fzs r1, (E2 _).mono g'.fzs r2, (E3 _).mono g'.fzs r3⟩⟩
end
theorem foMO {β κ α : Type} [DecidableEq κ] [Ky κ] {D : α → Od} {x : β → List (κ × α)} (fo : FlatO D) : FlatO fun b => oMO D (x b) := fun b G H H' v ⟨p, kvs, gs, eg, ev, hp, z, nd, ks, o3⟩ k => by
  refine ⟨p, kvs, gs, eg, ev, by rw [k p (by rw [eg]; exact List.mem_cons_self)]; exact hp, z, nd, ks, ?_⟩
  have kk : ∀ a ∈ gs.flatten, H' a = H a := fun a ha => k a (by rw [eg]; exact List.mem_cons_of_mem _ ha)
  clear ks hp z nd eg k
  revert kk
  generalize kvs.map (·.2) = vs at o3 ⊢
  generalize x b = xb at o3 ⊢
  induction o3 with
  | nil => exact fun _ => .nil
  | cons r t ih => exact fun kk => .cons (fo _ _ _ _ _ r fun a ha => kk a (by rw [List.flatten_cons]; exact List.mem_append.mpr (.inl ha))) (ih fun a ha => kk a (by rw [List.flatten_cons]; exact List.mem_append.mpr (.inr ha)))
theorem foMOL {β κ : Type} [DecidableEq κ] [Ky κ] {x : β → List (κ × List Int)} : FlatO fun b => oMO (oL pInt) (x b) := foMO fun b => foL (x := fun b : List Int => b) feI b
end L3
end
section
set_option Elab.async false
set_option linter.all false
set_option maxRecDepth 100000
set_option maxHeartbeats 4000000
set_option pp.maxSteps 200
noncomputable section
namespace My
open PySem PySem.Spec PyProof.Rows L2 L3
@[irreducible] def M_common (a1 : List Int) (a2 : List Int) : Option (List Int) :=
  some ((a1.filter fun x2 => (decide (x2 ∈ a2))).map fun x2 => x2)
@[irreducible] def M_united (a1 : List Int) (a2 : List Int) : Option (List Int) :=
  grd (a1.length + a2.length ≤ sizeLine) (grd ((a1 ++ a2).length + 1 < scanBound) (some (sideL (a1 ++ a2))))
@[irreducible] def M_copy_box (a1 : List (Str × List Int)) : Option (List (Str × List Int)) :=
  (dcM (a1.map Prod.fst) ([] : List (Str × List Int)) (fun x4 => (dget a1 x4).bind fun x7 => some (x4, x7))).bind fun r8 => some r8
@[irreducible] def M_meet_boxes (a1 : List (Str × List Int)) (a2 : List (Str × List Int)) : Option (List (Str × List Int)) :=
  (M_copy_box a1).bind fun r9 => (some (r9 : List (Str × List Int))).bind fun x10 => (forS (a2.map Prod.fst) (x10 : (List (Str × List Int))) fun x16 s15 => (if (dhas s15 x16) = true then (dget s15 x16).bind fun x21 => (dget a2 x16).bind fun x22 => (M_common x21 x22).bind fun r23 => grd (s15.length < sizeLine) (some (dput s15 x16 r23)) else (dget a2 x16).bind fun x26 => grd (s15.length < sizeLine) (some (dput s15 x16 x26))).bind fun s20 => some s20).bind fun s17 => some s17
@[irreducible] def M_join_boxes (a1 : List (Str × List Int)) (a2 : List (Str × List Int)) (a3 : Str) : Option (List (Str × List Int)) :=
  (M_meet_boxes a1 a2).bind fun r29 => (some (r29 : List (Str × List Int))).bind fun x30 => (if ((dhas a1 a3) && (dhas a2 a3)) = true then (dget a1 a3).bind fun x37 => (dget a2 a3).bind fun x38 => (M_united x37 x38).bind fun r39 => grd (x30.length < sizeLine) (some (dput x30 a3 r39)) else (if (dhas x30 a3) = true then grd (dhas x30 a3 = true) (some (ddel x30 a3)) else some x30).bind fun s43 => some s43).bind fun s35 => some s35
@[irreducible] def M_run_plan (a1 : List (List (Str × List Int))) (a2 : List (Str × Int × Int)) : Option (Except Er (List (List (Str × List Int)))) :=
  (lcM a1 [] (fun x46 => (M_copy_box x46).bind fun r48 => some r48)).bind fun r49 => (some (r49 : List (List (Str × List Int)))).bind fun x50 => (forL (enumL a2) (x50 : (List (List (Str × List Int)))) fun x56 s55 => (some (x56.2 : (Str × Int × Int))).bind fun x59 => (forL ([x59.2.1, x59.2.2]) (() : Unit) fun x63 s62 => if (!((decide ((0 : Int) ≤ x63)) && (decide (x63 < (s55.length : Int))))) = true then inB (some ((fun e => Tm.rt ((Except.error) e)) (⟨"BadStep", [.int (x56.1)]⟩ : Er))) else some (Bo.nx ())).bind (boK (fun s64 => (atI s55 (x59.2.1)).bind fun x65 => (atI s55 (x59.2.2)).bind fun x66 => (M_join_boxes x65 x66 (x59.1)).bind fun r67 => grd (s55.length < sizeLine) (some (Bo.nx (s55 ++ [r67])))) (fun r => Bo.tm (Tm.rt r)))).bind (boK (fun s57 => some (Except.ok (ε := Er) s57)) id)
@[irreducible] def M_l_is_integer (a1 : Int) : Option (Bool) :=
  some (true && (!false))
@[irreducible] def M_l_is_integer_v_o (a1 : Option Int) : Option (Bool) :=
  some ((oSel a1 false true) && (!(oSel a1 false false)))
@[irreducible] def M_l_stream (a1 : List Int) (a2 : Int) : Option (List Int) :=
  (some ((0 : Int) : Int)).bind fun x70 => (if (decide (a2 < (a1.length : Int))) = true then (atI a1 a2).bind fun x74 => (some (x74 : Int)).bind fun x75 => some x75 else some x70).bind fun s73 => grd ((sm s73 || sm (if (decide (((10 : Int) ^ (18 : Int).toNat) ≤ s73)) then 1 else 0 : Int)) = true) (some ([(s73 * (if (decide (((10 : Int) ^ (18 : Int).toNat) ≤ s73)) then 1 else 0 : Int)), (0 : Int), s73]))
@[irreducible] def M_l_next (a1 : List Int) (a2 : Int) : Option (Int × (List Int)) :=
  (atI a1 (1 : Int)).bind fun x77 => (ixN a1.length (1 : Int)).bind fun (_ : Nat) => (atI (a1.set ((ixN a1.length (1 : Int)).getD 0) (x77 + (1 : Int))) (0 : Int)).bind fun x79 => if (decide ((0 : Int) < x79)) = true then (atI (a1.set ((ixN a1.length (1 : Int)).getD 0) (x77 + (1 : Int))) (0 : Int)).bind fun x81 => grd (0 < a2) ((some ((x81 % a2) : Int)).bind fun x82 => (atI (a1.set ((ixN a1.length (1 : Int)).getD 0) (x77 + (1 : Int))) (0 : Int)).bind fun x84 => grd (dv a2 = true) ((ixN (a1.set ((ixN a1.length (1 : Int)).getD 0) (x77 + (1 : Int))).length (0 : Int)).bind fun (_ : Nat) => some (x82, ((a1.set ((ixN a1.length (1 : Int)).getD 0) (x77 + (1 : Int))).set ((ixN (a1.set ((ixN a1.length (1 : Int)).getD 0) (x77 + (1 : Int))).length (0 : Int)).getD 0) (x84 / a2))))) else (atI (a1.set ((ixN a1.length (1 : Int)).getD 0) (x77 + (1 : Int))) (2 : Int)).bind fun x86 => (atI (a1.set ((ixN a1.length (1 : Int)).getD 0) (x77 + (1 : Int))) (1 : Int)).bind fun x87 => grd ((sm (7919 : Int) || sm x87) = true) (grd (0 < (2147483647 : Int)) ((some ((((x86 + ((7919 : Int) * x87)) + (13 : Int)) % (2147483647 : Int)) : Int)).bind fun x88 => grd ((sm x88 || sm (x88 + (48271 : Int))) = true) (grd (0 < (2147483629 : Int)) ((some (((x88 * (x88 + (48271 : Int))) % (2147483629 : Int)) : Int)).bind fun x90 => grd ((sm x90 || sm (x90 + (69621 : Int))) = true) ((atI (a1.set ((ixN a1.length (1 : Int)).getD 0) (x77 + (1 : Int))) (1 : Int)).bind fun x92 => grd ((sm (31 : Int) || sm x92) = true) (grd (0 < (2147483647 : Int)) ((some ((((x90 * (x90 + (69621 : Int))) + ((31 : Int) * x92)) % (2147483647 : Int)) : Int)).bind fun x93 => grd (dv (9 : Int) = true) (grd (0 < a2) (some (((x93 / (9 : Int)) % a2), (a1.set ((ixN a1.length (1 : Int)).getD 0) (x77 + (1 : Int)))))))))))))
@[irreducible] def M_l_names (a1 : List Int) (a2 : Int) : Option ((List Str) × (List Int)) :=
  (M_l_next a1 (3 : Int)).bind fun r95 => if (decide ((r95.1) = (0 : Int))) = true then (M_l_next (r95.2) (8 : Int)).bind fun r97 => (some (r97.1 : Int)).bind fun x98 => (some ([("x" : Str), ("yard" : Str), ("z" : Str), ("u" : Str), ("wide_one" : Str), ("q" : Str), ("pp" : Str), ("t" : Str)] : List Str)).bind fun x100 => grd (rg a2 = true) ((compM (rngL 0 a2.toNat) () (fun x103 s105 => if true = true then grd ((sm x103 || sm (3 : Int)) = true) (grd (0 < (8 : Int)) ((atI x100 (((x103 * (3 : Int)) + x98) % (8 : Int))).bind fun x107 => some (some x107, ()))) else some (none, ()))).bind fun r108 => some (r108.1, r97.2)) else (some (("qwertyuiopasdfghjklzxcvbnm_zyx" : Str) : Str)).bind fun x109 => (some ([] : List Str)).bind fun x111 => grd (rg a2 = true) ((forS (rngL 0 a2.toNat) ((x111, r95.2) : (List Str) × (List Int)) fun x117 s116 => (M_l_next (s116.2) (26 : Int)).bind fun r120 => (some (r120.1 : Int)).bind fun x121 => (M_l_next (r120.2) (3 : Int)).bind fun r123 => (some (((1 : Int) + (r123.1)) : Int)).bind fun x124 => (M_l_next (r123.2) (3 : Int)).bind fun r126 => grd (x109.length ≤ sizeLine) ((some ((cutS x109 (some ((26 : Int) - (r126.1))) (some (26 : Int))) : Str)).bind fun x127 => grd (x109.length ≤ sizeLine) (grd (("7305186429" : Str).length ≤ sizeLine) ((atI ("7305186429" : Str).cps.toList x117).bind fun x129 => grd ((cutS x109 (some x121) (some (x121 + x124))).length + (⟨#[x129]⟩ : Str).length ≤ sizeLine) (grd (((cutS x109 (some x121) (some (x121 + x124))) ++ (⟨#[x129]⟩ : Str)).length + x127.length ≤ sizeLine) (grd ((s116.1).length < sizeLine) (some (((s116.1) ++ [(((cutS x109 (some x121) (some (x121 + x124))) ++ (⟨#[x129]⟩ : Str)) ++ x127)]), r126.2)))))))).bind fun s118 => some (s118.1, s118.2))
@[irreducible] def M_l_pool (a1 : List Int) (a2 : Int) : Option ((List Int) × (List Int)) :=
  (M_l_next a1 (9 : Int)).bind fun r131 => (some ([((r131.1) - (4 : Int))] : List Int)).bind fun x132 => grd (rg (a2 - (1 : Int)) = true) ((forS (rngL 0 (a2 - (1 : Int)).toNat) ((x132, r131.2) : (List Int) × (List Int)) fun x138 s137 => (atI (s137.1) x138).bind fun x149 => (M_l_next (s137.2) (4 : Int)).bind fun r150 => grd (dv (3 : Int) = true) (grd ((sm (2 : Int) || sm ((r150.1) / (3 : Int))) = true) (grd ((s137.1).length < sizeLine) (some (((s137.1) ++ [((x149 + (1 : Int)) + ((2 : Int) * ((r150.1) / (3 : Int))))]), r150.2))))).bind fun s139 => (M_l_next (s139.2) (8 : Int)).bind fun r140 => (atI ([(1 : Int), (1 : Int), (1 : Int), (1 : Int), (1 : Int), (1 : Int), (7 : Int), ((10 : Int) ^ (9 : Int).toNat)]) (r140.1)).bind fun x141 => (some (x141 : Int)).bind fun x142 => (compM (s139.1) () (fun x145 s146 => if true = true then grd ((sm x145 || sm x142) = true) (some (some (x145 * x142), ())) else some (none, ()))).bind fun r148 => some (r148.1, r140.2))
@[irreducible] def M_l_is_side (a1 : List Int) : Option (Bool) :=
  ((if (!true) = true then some (true, ()) else (compM a1 () (fun x160 s162 => if true = true then (M_l_is_integer x160).bind fun r164 => some (some r164, ()) else some (none, ()))).bind fun r165 => some ((!((r165.1).all id)), ()))).bind fun c166 => if c166.1 = true then some false else grd (rg ((a1.length : Int) - (1 : Int)) = true) ((compM (rngL 0 ((a1.length : Int) - (1 : Int)).toNat) () (fun x169 s172 => if true = true then (atI a1 x169).bind fun x174 => (atI a1 (x169 + (1 : Int))).bind fun x175 => some (some (decide (x174 < x175)), ()) else some (none, ()))).bind fun r176 => some ((r176.1).all id))
@[irreducible] def M_l_same_sides (a1 : List (Str × List Int)) (a2 : List (Str × List Int)) : Option (Bool) :=
  if ((!true) || (!decide ((a1.length : Int) = (a2.length : Int)))) = true then some false else (compM (a2.map Prod.fst) () (fun x179 s185 => ((if (dhas a1 x179) = true then (dget a1 x179).bind fun x189 => (M_l_is_side x189).bind fun r190 => some (r190, ()) else some (false, ()))).bind fun c191 => if c191.1 = true then some (some x179, ()) else some (none, ()))).bind fun r192 => (some (r192.1 : List Str)).bind fun x193 => ((if (decide ((x193.length : Int) = (a2.length : Int))) = true then (compM x193 () (fun x207 s210 => if true = true then (dget a1 x207).bind fun x212 => (dget a2 x207).bind fun x213 => some (some (decide (x212 = x213)), ()) else some (none, ()))).bind fun r214 => some (((r214.1).all id), ()) else some (false, ()))).bind fun c215 => some (c215.1)
@[irreducible] def M_l_drawn_sides (a1 : List Int) (a2 : List Str) (a3 : List Int) : Option ((List (Str × List Int)) × (List Int)) :=
  (M_l_next a1 (a2.length : Int)).bind fun r216 => (some (r216.1 : Int)).bind fun x217 => (some (([] : List (Str × List Int)) : List (Str × List Int))).bind fun x219 => grd ((cutL a2 (some x217) none).length + (cutL a2 none (some x217)).length ≤ sizeLine) ((forS ((cutL a2 (some x217) none) ++ (cutL a2 none (some x217))) ((x219, r216.2) : (List (Str × List Int)) × (List Int)) fun x225 s224 => (compM a3 (s224.2) (fun x229 s231 => (M_l_next s231 (3 : Int)).bind fun r233 => if (decide ((0 : Int) < (r233.1))) = true then some (some x229, r233.2) else some (none, r233.2))).bind fun r234 => grd ((s224.1).length < sizeLine) (some ((dput (s224.1) x225 (r234.1)), r234.2))).bind fun s226 => some (s226.1, s226.2))
@[irreducible] def M_l_copied (a1 : List (Str × List Int)) : Option (List (Str × List Int)) :=
  (some (([] : List (Str × List Int)) : List (Str × List Int))).bind fun x236 => (forS (a1.map Prod.fst) (x236 : (List (Str × List Int))) fun x242 s241 => (dget a1 x242).bind fun x245 => grd (s241.length < sizeLine) (some (dput s241 x242 x245))).bind fun s243 => some s243
@[irreducible] def M_l_join (a1 : List (Str × List Int)) (a2 : List (Str × List Int)) (a3 : Str) : Option (List (Str × List Int)) :=
  (some (([] : List (Str × List Int)) : List (Str × List Int))).bind fun x247 => (forS (a1.map Prod.fst) (x247 : (List (Str × List Int))) fun x253 s252 => (dget a1 x253).bind fun x266 => (compM x266 () (fun x268 s270 => (dget a2 x253).bind fun x272 => if (decide (x268 ∈ x272)) = true then some (some x268, ()) else some (none, ()))).bind fun r273 => grd (s252.length < sizeLine) (some (dput s252 x253 (r273.1)))).bind fun s254 => (dget a1 a3).bind fun x255 => (dget a2 a3).bind fun x256 => (compM x256 () (fun x258 s260 => (dget a1 a3).bind fun x262 => if (!decide (x258 ∈ x262)) = true then some (some x258, ()) else some (none, ()))).bind fun r263 => grd (x255.length + (r263.1).length ≤ sizeLine) (grd (s254.length < sizeLine) (some (dput s254 a3 (srt (x255 ++ (r263.1))))))
@[irreducible] def M_l_joined (a1 : List (List (Str × List Int))) (a2 : List (Str × Int × Int)) : Option (List (List (Str × List Int))) :=
  (compM a1 () (fun x276 s278 => if true = true then (M_l_copied x276).bind fun r280 => some (some r280, ()) else some (none, ()))).bind fun r281 => (some (r281.1 : List (List (Str × List Int)))).bind fun x282 => (forS a2 (x282 : (List (List (Str × List Int)))) fun x288 s287 => (atI s287 (x288.2.1)).bind fun x291 => (atI s287 (x288.2.2)).bind fun x292 => (M_l_join x291 x292 (x288.1)).bind fun r293 => grd (s287.length < sizeLine) (some (s287 ++ [r293]))).bind fun s289 => some s289
@[irreducible] def M_l_good_steps (a1 : List Int) (a2 : List Str) (a3 : Int) (a4 : Int) : Option ((List (Str × Int × Int)) × (List Int)) :=
  (some ([] : List (Str × Int × Int))).bind fun x295 => grd (rg a4 = true) ((forS (rngL 0 a4.toNat) ((x295, a1) : (List (Str × Int × Int)) × (List Int)) fun x301 s300 => (M_l_next (s300.2) (a2.length : Int)).bind fun r304 => (atI a2 (r304.1)).bind fun x305 => (some (x305 : Str)).bind fun x306 => (M_l_next (r304.2) (max (1 : Int) (a3 + x301))).bind fun r308 => (M_l_next (r308.2) (max (1 : Int) (a3 + x301))).bind fun r309 => grd ((s300.1).length < sizeLine) (some (((s300.1) ++ [(x306, r308.1, r309.1)]), r309.2))).bind fun s302 => some (s302.1, s302.2))
@[irreducible] def M_l_bad_step (a1 : List Int) (a2 : (Str × Int × Int)) (a3 : Int) : Option ((Str × Int × Int) × (List Int)) :=
  (M_l_next a1 (3 : Int)).bind fun r311 => (M_l_next (r311.2) (6 : Int)).bind fun r312 => (atI ([a3, ((a3 + (1 : Int)) + (r311.1)), (-(1 : Int)), (-a3), ((-a3) - (1 : Int)), ((10 : Int) ^ (6 : Int).toNat)]) (r312.1)).bind fun x313 => (some (x313 : Int)).bind fun x314 => (M_l_next (r312.2) (3 : Int)).bind fun r316 => (some (r316.1 : Int)).bind fun x317 => if (decide (x317 = (0 : Int))) = true then some ((a2.1, x314, a2.2.2), r316.2) else if (decide (x317 = (1 : Int))) = true then some ((a2.1, a2.2.1, x314), r316.2) else some ((a2.1, x314, x314), r316.2)
@[irreducible] def M_l_same_boxes (a1 : List (List (Str × List Int))) (a2 : List (List (Str × List Int))) : Option (Bool) :=
  if ((!true) || (!decide ((a1.length : Int) = (a2.length : Int)))) = true then some false else grd (rg (a2.length : Int) = true) ((forL (rngL 0 (a2.length : Int).toNat) (() : Unit) fun x324 s323 => (atI a1 x324).bind fun x326 => (atI a2 x324).bind fun x327 => (M_l_same_sides x326 x327).bind fun r328 => if (!r328) = true then inB (some (Tm.rt false)) else some (Bo.nx ())).bind (boK (fun s325 => some true) id))
@[irreducible] def M_l_all_new (a1 : List (List (Str × List Int))) (a2 : List (List (Str × List Int))) : Option (Bool × (List (List (Str × List Int)))) :=
  grd (rg (a2.length : Int) = true) ((forS (rngL 0 (a2.length : Int).toNat) (a1 : (List (List (Str × List Int)))) fun x332 s331 => (atI a2 x332).bind fun x348 => (forS (x348.map Prod.fst) (s331 : (List (List (Str × List Int)))) fun x351 s350 => (ixN s350.length x332).bind fun m353 => (s350[m353]?).bind fun x354 => (dget x354 x351).bind fun x355 => grd (x355.length < sizeLine) (some (s350.set m353 (dput x354 x351 (x355 ++ [((10 : Int) ^ (13 : Int).toNat)]))))).bind fun s352 => some s352).bind fun s333 => grd (rg (a2.length : Int) = true) ((forL (rngL 0 (a2.length : Int).toNat) (() : Unit) fun x336 s335 => (atI a2 x336).bind fun x338 => (forL (x338.map Prod.fst) (() : Unit) fun x341 s340 => (atI s333 x336).bind fun x343 => (dget x343 x341).bind fun x344 => (atI a2 x336).bind fun x345 => (dget x345 x341).bind fun x346 => grd (x346.length + ([((10 : Int) ^ (13 : Int).toNat)]).length ≤ sizeLine) (if (!decide (x344 = (x346 ++ ([((10 : Int) ^ (13 : Int).toNat)])))) = true then inB (some (Tm.rt (false, s333))) else some (Bo.nx ()))).bind (boK (fun s342 => some (Bo.nx ())) (fun r => Bo.tm (Tm.rt r)))).bind (boK (fun s337 => some (true, s333)) id)))
@[irreducible] def M_l_carried_out (a1 : List (List (Str × List Int))) (a2 : List (Str × Int × Int)) : Option (Bool) :=
  (compM a1 () (fun x358 s360 => if true = true then (M_l_copied x358).bind fun r362 => some (some r362, ()) else some (none, ()))).bind fun r363 => (some (r363.1 : List (List (Str × List Int)))).bind fun x364 => (some (a2 : List (Str × Int × Int))).bind fun x368 => (M_l_joined a1 a2).bind fun r370 => (some (r370 : List (List (Str × List Int)))).bind fun x371 => grd (rg (2 : Int) = true) ((forL (rngL 0 (2 : Int).toNat) (() : Unit) fun x375 s374 => ((M_run_plan x364 x368).bind okx).bind fun r377 => (some (r377 : List (List (Str × List Int)))).bind fun x378 => (M_l_same_boxes x378 x371).bind fun r382 => ((if (!r382) = true then some (true, x378) else (M_l_all_new x378 x371).bind fun r384 => some ((!(r384.1)), r384.2))).bind fun c385 => if c385.1 = true then inB (some (Tm.rt false)) else grd (lokG (deM (κ := Str) (deG (dgL dgInt) (injL injInt) (of_decide_eq_true rfl))).ok x364 a1 = true) (((if (!leqG (deM (κ := Str) (deG (dgL dgInt) (injL injInt) (of_decide_eq_true rfl))).eqv x364 a1) = true then some (true, ()) else grd (okG (dgL (dgT3 dgStr dgInt dgInt)) x368 a2 = true) (some ((!decide (x368 = a2)), ())))).bind fun c387 => if c387.1 = true then inB (some (Tm.rt false)) else some (Bo.nx ()))).bind (boK (fun s376 => some true) id))
@[irreducible] def M_l_told_position (a1 : List (List (Str × List Int))) (a2 : List (Str × Int × Int)) : Option (Option Int) :=
  ((M_run_plan a1 a2).bind (xK (fun e => Bo.tm ((Except.error) e)) fun r390 => some (Bo.nx ()))).bind (tryK (fun s389 => some (none : Option Int)) id (fun e => subC e.cn "BadStep") (fun e392 => (some (((["UnknownName", "RepeatedName", "UnknownValue", "RepeatedValue", "UnknownKey", "RepeatedKey", "EmptyRule", "BadRow", "BadBounds", "BadNumber", "NoMark", "NotStruck", "BadOrder", "NotBare", "NoClash", "HoldsAnswer", "BadLine", "UnknownLine", "BadText", "NothingToUndo", "NothingToRedo", "UnknownStep", "BadDeed"] : List Str).any (subC e392.cn)) : Bool)).bind fun x393 => if (x393 || ((!(subC e392.cn "DeskError")) || (!(subC e392.cn "ValueError")))) = true then inB (some (none : Option Int)) else inB ((erF e392 "position").bind fun y396 => (FV.int? y396).bind fun z397 => some (some z397))) (fun _ => none))
@[irreducible] def M_l_refused (a1 : List (List (Str × List Int))) (a2 : List (Str × Int × Int)) (a3 : Int) : Option (Bool) :=
  (compM a1 () (fun x399 s401 => if true = true then (M_l_copied x399).bind fun r403 => some (some r403, ()) else some (none, ()))).bind fun r404 => (some (r404.1 : List (List (Str × List Int)))).bind fun x405 => (some (a2 : List (Str × Int × Int))).bind fun x409 => grd (rg (2 : Int) = true) ((forL (rngL 0 (2 : Int).toNat) (() : Unit) fun x413 s412 => (M_l_told_position x405 x409).bind fun r416 => (some (r416 : Option Int)).bind fun x417 => (M_l_is_integer_v_o x417).bind fun r419 => ((if (!r419) = true then some (true, ()) else ((if (!decide (x417 = (some a3))) = true then some (true, ()) else grd (lokG (deM (κ := Str) (deG (dgL dgInt) (injL injInt) (of_decide_eq_true rfl))).ok x405 a1 = true) (((if (!leqG (deM (κ := Str) (deG (dgL dgInt) (injL injInt) (of_decide_eq_true rfl))).eqv x405 a1) = true then some (true, ()) else grd (okG (dgL (dgT3 dgStr dgInt dgInt)) x409 a2 = true) (some ((!decide (x409 = a2)), ())))).bind fun c420 => some (c420.1, ())))).bind fun c421 => some (c421.1, ()))).bind fun c422 => if c422.1 = true then inB (some (Tm.rt false)) else some (Bo.nx ())).bind (boK (fun s414 => (M_l_carried_out a1 (cutL a2 none (some a3))).bind fun r415 => some r415) id))
@[irreducible] def M_law (a1 : List Int) : Option (Bool) :=
  (M_l_stream a1 (0 : Int)).bind fun r424 => (some (r424 : List Int)).bind fun x425 => (M_l_next x425 (8 : Int)).bind fun r429 => (some ((decide ((r429.1) = (0 : Int))) : Bool)).bind fun x430 => ((if x430 = true then some ((5 : Int), r429.2) else (M_l_next (r429.2) (4 : Int)).bind fun r433 => some (((1 : Int) + (r433.1)), r433.2))).bind fun c434 => (M_l_names (c434.2) (c434.1)).bind fun r435 => (some (r435.1 : List Str)).bind fun x436 => (M_l_next (r435.2) (4 : Int)).bind fun r438 => (M_l_pool (r438.2) ((2 : Int) + (r438.1))).bind fun r439 => (some (r439.1 : List Int)).bind fun x440 => (some ([] : List (List (Str × List Int)))).bind fun x442 => ((if x430 = true then (M_l_next (r439.2) (13 : Int)).bind fun r447 => some (((12 : Int) + (r447.1)), r447.2) else (M_l_next (r439.2) (6 : Int)).bind fun r448 => some (r448.1, r448.2))).bind fun c449 => grd (rg (c449.1) = true) ((forS (rngL 0 (c449.1).toNat) ((x442, c449.2) : (List (List (Str × List Int))) × (List Int)) fun x452 s451 => (M_l_drawn_sides (s451.2) x436 x440).bind fun r509 => grd ((s451.1).length < sizeLine) (some (((s451.1) ++ [r509.1]), r509.2))).bind fun s453 => (M_l_stream a1 (1 : Int)).bind fun r454 => (some (r454 : List Int)).bind fun x455 => ((if x430 = true then (M_l_next x455 (21 : Int)).bind fun r461 => some (((20 : Int) + (r461.1)), r461.2) else (M_l_next x455 (9 : Int)).bind fun r462 => some (r462.1, r462.2))).bind fun c463 => (some (c463.1 : Int)).bind fun x464 => (M_l_next (c463.2) (24 : Int)).bind fun r466 => (if (decide ((r466.1) = (23 : Int))) = true then (M_l_next (r466.2) (2 : Int)).bind fun r506 => (some (((300 : Int) + (r506.1)) : Int)).bind fun x507 => some (x507, r506.2) else some (x464, r466.2)).bind fun s468 => (M_l_good_steps (s468.2) x436 ((s453.1).length : Int) (s468.1)).bind fun r469 => (some (r469.1 : List (Str × Int × Int))).bind fun x470 => ((if (decide ((0 : Int) < ((s453.1).length : Int))) = true then (M_l_carried_out (s453.1) x470).bind fun r475 => some ((!r475), ()) else some (false, ()))).bind fun c476 => if c476.1 = true then some false else if (decide ((x470.length : Int) = (0 : Int))) = true then (M_l_carried_out (s453.1) x470).bind fun r479 => some r479 else (M_l_stream a1 (2 : Int)).bind fun r480 => (some (r480 : List Int)).bind fun x481 => if (decide (((s453.1).length : Int) = (0 : Int))) = true then (M_l_refused (s453.1) x470 (0 : Int)).bind fun r487 => some r487 else (M_l_next x481 (2 : Int)).bind fun r488 => if (decide ((r488.1) = (0 : Int))) = true then some true else (some ((x470.length : Int) : Int)).bind fun x490 => (M_l_next (r488.2) (2 : Int)).bind fun r492 => grd (rg ((1 : Int) + (r492.1)) = true) ((forS (rngL 0 ((1 : Int) + (r492.1)).toNat) ((x490, r492.2, x470) : Int × (List Int) × (List (Str × Int × Int))) fun x495 s494 => (M_l_next (s494.2.1) ((s494.2.2).length : Int)).bind fun r498 => (some (r498.1 : Int)).bind fun x499 => (atI (s494.2.2) x499).bind fun x501 => (M_l_bad_step (r498.2) x501 (((s453.1).length : Int) + x499)).bind fun r502 => (ixN (s494.2.2).length x499).bind fun (_ : Nat) => (some ((min (s494.1) x499) : Int)).bind fun x504 => some (x504, r502.2, ((s494.2.2).set ((ixN (s494.2.2).length x499).getD 0) (r502.1)))).bind fun s496 => (M_l_refused (s453.1) (s496.2.2) (s496.1)).bind fun r497 => some r497))
end My
end
section
set_option Elab.async false
set_option linter.all false
set_option maxRecDepth 100000
set_option maxHeartbeats 4000000
namespace My
open PySem PySem.Spec PyProof.Rows L2 L3
def top (i : Nat) : Stmt := PySem.Challenge.pw_curbdesk_k06_run_plan.main.body.getD i (.Pass ⟨0, 0, 0, 0⟩)
abbrev FnP (K : PySem.W.Frag) (x : Str) (st : Stmt) (f : Addr) (fd : FuncData) : Prop := FunD K x x (defArgs st) (defBody st) (defScope st) [] [] f fd
def rsL : List Str := ["BadStep"]
def csL : List Str := ["BadStep", "UnknownName", "RepeatedName", "UnknownValue", "RepeatedValue", "UnknownKey", "RepeatedKey", "EmptyRule", "BadRow", "BadBounds", "BadNumber", "NoMark", "NotStruck", "BadOrder", "NotBare", "NoClash", "HoldsAnswer", "BadLine", "UnknownLine", "BadText", "NothingToUndo", "NothingToRedo", "UnknownStep", "BadDeed", "DeskError", "ValueError"]
structure Ev (P : Program) (K : PySem.W.Frag) (mg : Str → Option Value) : Prop where
  xs : XsT P K mg rsL csL
  f_common : ∃ (f : Addr) (fd : FuncData), FnP K "common" (top 27) f fd ∧ mg "common" = some (.ref f)
  f_united : ∃ (f : Addr) (fd : FuncData), FnP K "united" (top 28) f fd ∧ mg "united" = some (.ref f)
  f_copy_box : ∃ (f : Addr) (fd : FuncData), FnP K "copy_box" (top 30) f fd ∧ mg "copy_box" = some (.ref f)
  f_meet_boxes : ∃ (f : Addr) (fd : FuncData), FnP K "meet_boxes" (top 31) f fd ∧ mg "meet_boxes" = some (.ref f)
  f_join_boxes : ∃ (f : Addr) (fd : FuncData), FnP K "join_boxes" (top 32) f fd ∧ mg "join_boxes" = some (.ref f)
  f_run_plan : ∃ (f : Addr) (fd : FuncData), FnP K "run_plan" (top 34) f fd ∧ mg "run_plan" = some (.ref f)
  f_l_is_integer : ∃ (f : Addr) (fd : FuncData), FnP K "_law_is_integer" (top 36) f fd ∧ mg "_law_is_integer" = some (.ref f)
  f_l_stream : ∃ (f : Addr) (fd : FuncData), FnP K "_law_stream" (top 37) f fd ∧ mg "_law_stream" = some (.ref f)
  f_l_next : ∃ (f : Addr) (fd : FuncData), FnP K "_law_next" (top 38) f fd ∧ mg "_law_next" = some (.ref f)
  f_l_names : ∃ (f : Addr) (fd : FuncData), FnP K "_law_names" (top 39) f fd ∧ mg "_law_names" = some (.ref f)
  f_l_pool : ∃ (f : Addr) (fd : FuncData), FnP K "_law_pool" (top 40) f fd ∧ mg "_law_pool" = some (.ref f)
  f_l_is_side : ∃ (f : Addr) (fd : FuncData), FnP K "_law_is_side" (top 41) f fd ∧ mg "_law_is_side" = some (.ref f)
  f_l_same_sides : ∃ (f : Addr) (fd : FuncData), FnP K "_law_same_sides" (top 42) f fd ∧ mg "_law_same_sides" = some (.ref f)
  f_l_drawn_sides : ∃ (f : Addr) (fd : FuncData), FnP K "_law_drawn_sides" (top 43) f fd ∧ mg "_law_drawn_sides" = some (.ref f)
  f_l_copied : ∃ (f : Addr) (fd : FuncData), FnP K "_law_copied" (top 44) f fd ∧ mg "_law_copied" = some (.ref f)
  f_l_join : ∃ (f : Addr) (fd : FuncData), FnP K "_law_join" (top 45) f fd ∧ mg "_law_join" = some (.ref f)
  f_l_joined : ∃ (f : Addr) (fd : FuncData), FnP K "_law_joined" (top 46) f fd ∧ mg "_law_joined" = some (.ref f)
  f_l_good_steps : ∃ (f : Addr) (fd : FuncData), FnP K "_law_good_steps" (top 47) f fd ∧ mg "_law_good_steps" = some (.ref f)
  f_l_bad_step : ∃ (f : Addr) (fd : FuncData), FnP K "_law_bad_step" (top 48) f fd ∧ mg "_law_bad_step" = some (.ref f)
  f_l_same_boxes : ∃ (f : Addr) (fd : FuncData), FnP K "_law_same_boxes" (top 49) f fd ∧ mg "_law_same_boxes" = some (.ref f)
  f_l_all_new : ∃ (f : Addr) (fd : FuncData), FnP K "_law_all_new" (top 50) f fd ∧ mg "_law_all_new" = some (.ref f)
  f_l_carried_out : ∃ (f : Addr) (fd : FuncData), FnP K "_law_carried_out" (top 51) f fd ∧ mg "_law_carried_out" = some (.ref f)
  f_l_told_position : ∃ (f : Addr) (fd : FuncData), FnP K "_law_told_position" (top 52) f fd ∧ mg "_law_told_position" = some (.ref f)
  f_l_refused : ∃ (f : Addr) (fd : FuncData), FnP K "_law_refused" (top 53) f fd ∧ mg "_law_refused" = some (.ref f)
  m_ValueError : mg "ValueError" = none
  m_all : mg "all" = none
  m_bool : mg "bool" = none
  m_dict : mg "dict" = none
  m_enumerate : mg "enumerate" = none
  m_int : mg "int" = none
  m_isinstance : mg "isinstance" = none
  m_len : mg "len" = none
  m_list : mg "list" = none
  m_max : mg "max" = none
  m_min : mg "min" = none
  m_range : mg "range" = none
  m_set : mg "set" = none
  m_sorted : mg "sorted" = none
  m_super : mg "super" = none
end My
end
section
set_option Elab.async false
set_option linter.all false
set_option maxRecDepth 100000
set_option maxHeartbeats 4000000
set_option pp.maxSteps 200
namespace My
open PySem PySem.Spec PyProof.Rows L2 L3
section
variable {P : Program} {w : World} {K : PySem.W.Frag} {mg : Str → Option Value} {base : Heap}
theorem sc_common : FnScope ["first", "second", "value"] ["first", "second"] (defScope (top 27)) := ⟨rfl, rfl, rfl, by decide +kernel, rfl, by decide +kernel, by decide +kernel⟩
theorem ok_common {f : Addr} {fd : FuncData} (C : Ev P K mg) (FD : FnP K "common" (top 27) f fd)   : FnOk P w K mg base CX0 1 f fd ["first", "second"] (Sp_FF_o (pL pInt) (pL pInt) M_common (oL pInt)) := by
  refine fn_FF_o FD sc_common rfl fun cdv A outer s H E hr  a1 a2 => ?_
  exact s_is (s_T (T := some ((a1.filter fun x2 => (decide (x2 ∈ a2))).map fun x2 => x2)) (s_retO (P := (fun _ => [])) (Ro := (oL pInt)) (ι := id) (rv := fun (b : Unit) => ((a1.filter fun x2 => (decide (x2 ∈ a2))).map fun x2 => x2)) (fun _ _ _ h => h) (x_lcT (own := [("value", 2)]) sc_common.nd (i_list (x_var (p := (pL pInt) a1) 0)) (blkOk_by (own := [("value", 2)]) (N := ["first", "second", "value"]) (sc := defScope (top 27)) (by decide +kernel)) (fun _ _ _ _ _ => pg_name (i := 2) sc_common.nd rfl (by first | exact .inl rfl | exact .inr rfl)) (tw_name 2) (fun _ _ _ _ _ _ b1 x2 _ _ => pts_one (t_tot ((), ()) (fun _ => rfl) (t_kd (c := fun (b_ : (Unit × Unit)) => (decide (x2 ∈ a2))) (t_inL flInt (y_var (p := pInt x2) 2) (fun _ => y_var (p := (pL pInt) a2) 1) (fun _ _ => rdF))))) (fun _ _ _ _ _ _ b1 x2 _ _ => (y_var (p := pInt x2) 2))) (fun _ => List.Sublist.refl _))) (by unfold M_common; rfl)
end
end My
end
section
set_option Elab.async false
set_option linter.all false
set_option maxRecDepth 100000
set_option maxHeartbeats 4000000
set_option pp.maxSteps 200
namespace My
open PySem PySem.Spec PyProof.Rows L2 L3
section
variable {P : Program} {w : World} {K : PySem.W.Frag} {mg : Str → Option Value} {base : Heap}
theorem sc_united : FnScope ["first", "second"] ["first", "second"] (defScope (top 28)) := ⟨rfl, rfl, rfl, by decide +kernel, rfl, by decide +kernel, by decide +kernel⟩
theorem ok_united {f : Addr} {fd : FuncData} (C : Ev P K mg) (FD : FnP K "united" (top 28) f fd)   : FnOk P w K mg base CX0 1 f fd ["first", "second"] (Sp_FF_o (pL pInt) (pL pInt) M_united (oL pInt)) := by
  have m_set := C.m_set
  have m_sorted := C.m_sorted
  refine fn_FF_o FD sc_united rfl fun cdv A outer s H E hr  a1 a2 => ?_
  exact s_is (s_T (T := grd (a1.length + a2.length ≤ sizeLine) (grd ((a1 ++ a2).length + 1 < scanBound) (some (sideL (a1 ++ a2))))) (s_retO (P := (fun _ => [])) (Ro := (oL pInt)) (ι := id) (rv := fun (b : (Unit × Unit)) => (sideL (a1 ++ a2))) (fun _ _ _ h => h) (o_kd (o_kd (E := fun (b_ : (Unit × Unit)) => (oL pInt) (sideL (a1 ++ a2))) (x_sortedSet m_sorted (x_set m_set (x_kd (E := fun (b_ : (Unit × Unit)) => (pL pInt) (a1 ++ a2)) (x_frz (o_kd (E := fun (b_ : (Unit × Unit)) => (oL pInt) (a1 ++ a2)) (x_cat (Ee := pInt) (x_var (p := (pL pInt) a1) 0) (fun _ => x_var (p := (pL pInt) a2) 1) (fun _ _ => rdF) (fun _ _ => rdF))))) (fun _ => rdF))))) (fun _ => List.Sublist.refl _))) (by unfold M_united; rfl)
end
end My
end
section
set_option Elab.async false
set_option linter.all false
set_option maxRecDepth 100000
set_option maxHeartbeats 4000000
set_option pp.maxSteps 200
namespace My
open PySem PySem.Spec PyProof.Rows L2 L3
section
variable {P : Program} {w : World} {K : PySem.W.Frag} {mg : Str → Option Value} {base : Heap}
theorem sc_copy_box : FnScope ["box", "name"] ["box"] (defScope (top 30)) := ⟨rfl, rfl, rfl, by decide +kernel, rfl, by decide +kernel, by decide +kernel⟩
theorem ok_copy_box {f : Addr} {fd : FuncData} (C : Ev P K mg) (FD : FnP K "copy_box" (top 30) f fd)   : FnOk P w K mg base CX0 1 f fd ["box"] (Sp_F_o (pM (κ := Str) (pL pInt)) M_copy_box (oMO (κ := Str) (oL pInt))) := by
  have m_list := C.m_list
  refine fn_F_o FD sc_copy_box rfl fun cdv A outer s H E hr  a1 => ?_
  exact s_is (s_T (T := (dcM (a1.map Prod.fst) ([] : List (Str × List Int)) (fun x4 => (dget a1 x4).bind fun x7 => some (x4, x7))).bind fun r8 => some r8) (s_retO (P := (fun _ => [])) (Ro := (oMO (κ := Str) (oL pInt))) (ι := id) (rv := fun (b : (Unit × (List (Str × List Int)))) => b.2) (fun _ _ _ h => h) (o_kd (o_kd (E := fun (b_ : (Unit × (List (Str × List Int)))) => (oMO (κ := Str) (oL pInt)) b_.2) (x_dc (own := [("name", 1)]) (κ := Str) (δ := (List Int)) (D := (oL pInt)) (Ex := pStr) (f := fun (b_ : Unit) (x_ : Str) => (dget a1 x_).bind fun x7 => some (x_, x7)) (T2 := fun (b_ : Unit) (x_ : Str) (c_ : Unit) => (dget a1 x_).bind fun x7 => some (x_, x7)) (ky := fun (b_ : Unit) (x_ : Str) (c_ : Unit) => x_) (y := fun (b_ : Unit) (x_ : Str) (c_ : Unit) (d_ : ((Unit × Unit) × (List Int))) => d_.2) sc_copy_box.nd (i_mkeys (κ := Str) (x_var (p := (pM (κ := Str) (pL pInt)) a1) 0)) (blkOk_by (own := [("name", 1)]) (N := ["box", "name"]) (sc := defScope (top 30)) (by decide +kernel)) (fun _ _ _ _ _ => pg_name (i := 1) sc_copy_box.nd rfl (by first | exact .inl rfl | exact .inr rfl)) (tw_name 1) (by exact fun q5 _ _ _ _ _ b3 x4 => x_T (x_var (p := pStr x4) 1) (by rfl)) (by exact fun q5 _ _ _ _ _ b3 x4 b6 => o_T (o_kd (E := fun (b_ : ((Unit × Unit) × (List Int))) => (oL pInt) b_.2) (x_listL (Ee := pInt) m_list (x_kd (E := fun (b_ : ((Unit × Unit) × (List Int))) => (pL pInt) b_.2) (x_dget (κ := Str) (Ee := (pL pInt)) hr.units (x_var (p := (pM (κ := Str) (pL pInt)) a1) 0) (fun _ => x_var (p := pStr x4) 1) (fun _ _ => rdMF))) (fun _ => rdF))) (by rfl))))) (fun _ => List.Sublist.refl _))) (by unfold M_copy_box; rfl)
end
end My
end
section
set_option Elab.async false
set_option linter.all false
set_option maxRecDepth 100000
set_option maxHeartbeats 4000000
set_option pp.maxSteps 200
namespace My
open PySem PySem.Spec PyProof.Rows L2 L3
section
variable {P : Program} {w : World} {K : PySem.W.Frag} {mg : Str → Option Value} {base : Heap}
theorem sc_meet_boxes : FnScope ["first", "second", "result", "name"] ["first", "second"] (defScope (top 31)) := ⟨rfl, rfl, rfl, by decide +kernel, rfl, by decide +kernel, by decide +kernel⟩
theorem ok_meet_boxes {f : Addr} {fd : FuncData} (C : Ev P K mg) (FD : FnP K "meet_boxes" (top 31) f fd)   : FnOk P w K mg base CX0 2 f fd ["first", "second"] (Sp_FF_o (pM (κ := Str) (pL pInt)) (pM (κ := Str) (pL pInt)) M_meet_boxes (oMO (κ := Str) (oL pInt))) := by
  have m_list := C.m_list
  obtain ⟨f_copy_box, fd_copy_box, F_copy_box, g_copy_box⟩ := C.f_copy_box
  have k_copy_box := ok_copy_box (P := P) (w := w) (base := base) C F_copy_box
  have b_copy_box : Binds K fd_copy_box ["box"] [] := F_copy_box.bindsN fun _ _ _ _ _ _ us hl => match us, hl with | [_], _ => rfl
  obtain ⟨f_common, fd_common, F_common, g_common⟩ := C.f_common
  have k_common := ok_common (P := P) (w := w) (base := base) C F_common
  have b_common : Binds K fd_common ["first", "second"] [] := F_common.bindsN fun _ _ _ _ _ _ us hl => match us, hl with | [_, _], _ => rfl
  refine fn_FF_o FD sc_meet_boxes rfl fun cdv A outer s H E hr  a1 a2 => ?_
  exact s_is (s_T (T := (M_copy_box a1).bind fun r9 => (some (r9 : List (Str × List Int))).bind fun x10 => (forS (a2.map Prod.fst) (x10 : (List (Str × List Int))) fun x16 s15 => (if (dhas s15 x16) = true then (dget s15 x16).bind fun x21 => (dget a2 x16).bind fun x22 => (M_common x21 x22).bind fun r23 => grd (s15.length < sizeLine) (some (dput s15 x16 r23)) else (dget a2 x16).bind fun x26 => grd (s15.length < sizeLine) (some (dput s15 x16 x26))).bind fun s20 => some s20).bind fun s17 => some s17) (s_letO (i := 2) (oMO (κ := Str) (oL pInt)) sc_meet_boxes.nd (o_kd (E := fun (b_ : (Unit × (List (Str × List Int)))) => (oMO (κ := Str) (oL pInt)) b_.2) (x_F_o (kk := 1) (E1 := (pM (κ := Str) (pL pInt))) k_copy_box (hr.mono (by decide)) g_copy_box F_copy_box.kp b_copy_box (x_var (p := (pM (κ := Str) (pL pInt)) a1) 0))) fun (b11 : (Unit × (List (Str × List Int)))) x10 v13 => s_T (T := (forS (a2.map Prod.fst) (x10 : (List (Str × List Int))) fun x16 s15 => (if (dhas s15 x16) = true then (dget s15 x16).bind fun x21 => (dget a2 x16).bind fun x22 => (M_common x21 x22).bind fun r23 => grd (s15.length < sizeLine) (some (dput s15 x16 r23)) else (dget a2 x16).bind fun x26 => grd (s15.length < sizeLine) (some (dput s15 x16 x26))).bind fun s20 => some s20).bind fun s17 => some s17) (s_forS PassesOwn.never (fun (b_ : Unit) (s_ : (List (Str × List Int))) => ([some ((pM (κ := Str) (pL pInt)) a1), some ((pM (κ := Str) (pL pInt)) a2), some (pV v13), none], [⟨v13, (oMO (κ := Str) (oL pInt)) s_, none⟩])) (fun (b_ : Unit) => x10) (i_mkeys (κ := Str) (x_var (p := (pM (κ := Str) (pL pInt)) a2) 1)) (pg_name (i := 3) sc_meet_boxes.nd rfl (by first | exact .inl rfl | exact .inr rfl)) (tg_name 3) (fun _ => ⟨rfl, rfl, rfl, trivial⟩) (fun _ => List.Sublist.refl _) (fun b14 x16 s15 => s_T (T := (if (dhas s15 x16) = true then (dget s15 x16).bind fun x21 => (dget a2 x16).bind fun x22 => (M_common x21 x22).bind fun r23 => grd (s15.length < sizeLine) (some (dput s15 x16 r23)) else (dget a2 x16).bind fun x26 => grd (s15.length < sizeLine) (some (dput s15 x16 x26))).bind fun s20 => some s20) (s_ifN (C := fun s_ : (List (Str × List Int)) => ([some ((pM (κ := Str) (pL pInt)) a1), some ((pM (κ := Str) (pL pInt)) a2), some (pV v13), some (pStr x16)], [⟨v13, (oMO (κ := Str) (oL pInt)) s_, none⟩])) (t_kd (c := fun (b_ : (Unit × Unit)) => (dhas s15 x16)) (t_lockG (d := (oMO (κ := Str) (oL pInt)) s15) 0 2 (by exact t_din (κ := Str) (Ee := (pL pInt)) hr.units (x_var (p := pStr x16) 3) (fun _ => x_var (p := (pM (κ := Str) (pL pInt)) s15) 2) (fun _ _ => rdMF)))) (fun (b19 : (Unit × Unit)) => s_T (T := (dget s15 x16).bind fun x21 => (dget a2 x16).bind fun x22 => (M_common x21 x22).bind fun r23 => grd (s15.length < sizeLine) (some (dput s15 x16 r23))) (s_putFO (κ := Str) (D := (oL pInt)) 0 hr.units (o_kd (E := fun (b_ : ((((Unit × Unit) × (List Int)) × ((Unit × Unit) × (List Int))) × (List Int))) => (oL pInt) b_.2) (o_lockG (d := (oMO (κ := Str) (oL pInt)) s15) 0 2 (foL feI) (x_FF_o (kk := 1) (E1 := (pL pInt)) (E2 := (pL pInt)) k_common (hr.mono (by decide)) g_common F_common.kp b_common (x_kd (E := fun (b_ : ((Unit × Unit) × (List Int))) => (pL pInt) b_.2) (x_dget (κ := Str) (Ee := (pL pInt)) hr.units (x_var (p := (pM (κ := Str) (pL pInt)) s15) 2) (fun _ => x_var (p := pStr x16) 3) (fun _ _ => rdMF))) (fun _ => x_kd (E := fun (b_ : ((Unit × Unit) × (List Int))) => (pL pInt) b_.2) (x_dget (κ := Str) (Ee := (pL pInt)) hr.units (x_var (p := (pM (κ := Str) (pL pInt)) a2) 1) (fun _ => x_var (p := pStr x16) 3) (fun _ _ => rdMF)))))) (fun _ vt_ => f_var (D := (oMO (κ := Str) (oL pInt))) (x_var (p := pV v13) 2)) (fun _ _ vt_ => x_var (p := pStr x16) 3) (fun _ => rfl) fun (b25 : ((((((Unit × Unit) × (List Int)) × ((Unit × Unit) × (List Int))) × (List Int)) × Unit) × Unit)) => s_end (dput s15 x16 b25.1.1.2) rfl ⟨rfl, rfl, rfl, rfl, trivial⟩ (List.Sublist.refl _))) (fun (b19 : (Unit × Unit)) => s_T (T := (dget a2 x16).bind fun x26 => grd (s15.length < sizeLine) (some (dput s15 x16 x26))) (s_putFO (κ := Str) (D := (oL pInt)) 0 hr.units (o_kd (E := fun (b_ : ((Unit × Unit) × (List Int))) => (oL pInt) b_.2) (x_listL (Ee := pInt) m_list (x_kd (E := fun (b_ : ((Unit × Unit) × (List Int))) => (pL pInt) b_.2) (x_dget (κ := Str) (Ee := (pL pInt)) hr.units (x_var (p := (pM (κ := Str) (pL pInt)) a2) 1) (fun _ => x_var (p := pStr x16) 3) (fun _ _ => rdMF))) (fun _ => rdF))) (fun _ vt_ => f_var (D := (oMO (κ := Str) (oL pInt))) (x_var (p := pV v13) 2)) (fun _ _ vt_ => x_var (p := pStr x16) 3) (fun _ => rfl) fun (b28 : ((((Unit × Unit) × (List Int)) × Unit) × Unit)) => s_end (dput s15 x16 b28.1.1.2) rfl ⟨rfl, rfl, rfl, rfl, trivial⟩ (List.Sublist.refl _))) fun (b19 : (Unit × Unit)) s20 => s_end s20 rfl ⟨rfl, rfl, rfl, trivial⟩ (List.Sublist.refl _))) fun b14 s17 => s_T (T := some s17) (s_retV 0 (P := (fun _ => [])) (Ro := (oMO (κ := Str) (oL pInt))) (ι := id) (rv := fun _ => s17) (fun _ _ _ h => h) (x_var (p := pV v13) 2) (fun _ => rfl) (fun _ => List.Sublist.refl _))))) (by unfold M_meet_boxes; rfl)
end
end My
end
section
set_option Elab.async false
set_option linter.all false
set_option maxRecDepth 100000
set_option maxHeartbeats 4000000
set_option pp.maxSteps 200
namespace My
open PySem PySem.Spec PyProof.Rows L2 L3
section
variable {P : Program} {w : World} {K : PySem.W.Frag} {mg : Str → Option Value} {base : Heap}
theorem sc_join_boxes : FnScope ["first", "second", "name", "result"] ["first", "second", "name"] (defScope (top 32)) := ⟨rfl, rfl, rfl, by decide +kernel, rfl, by decide +kernel, by decide +kernel⟩
theorem ok_join_boxes {f : Addr} {fd : FuncData} (C : Ev P K mg) (FD : FnP K "join_boxes" (top 32) f fd)   : FnOk P w K mg base CX0 3 f fd ["first", "second", "name"] (Sp_FFF_o (pM (κ := Str) (pL pInt)) (pM (κ := Str) (pL pInt)) pStr M_join_boxes (oMO (κ := Str) (oL pInt))) := by
  obtain ⟨f_meet_boxes, fd_meet_boxes, F_meet_boxes, g_meet_boxes⟩ := C.f_meet_boxes
  have k_meet_boxes := ok_meet_boxes (P := P) (w := w) (base := base) C F_meet_boxes
  have b_meet_boxes : Binds K fd_meet_boxes ["first", "second"] [] := F_meet_boxes.bindsN fun _ _ _ _ _ _ us hl => match us, hl with | [_, _], _ => rfl
  obtain ⟨f_united, fd_united, F_united, g_united⟩ := C.f_united
  have k_united := ok_united (P := P) (w := w) (base := base) C F_united
  have b_united : Binds K fd_united ["first", "second"] [] := F_united.bindsN fun _ _ _ _ _ _ us hl => match us, hl with | [_, _], _ => rfl
  refine fn_FFF_o FD sc_join_boxes rfl fun cdv A outer s H E hr  a1 a2 a3 => ?_
  exact s_is (s_T (T := (M_meet_boxes a1 a2).bind fun r29 => (some (r29 : List (Str × List Int))).bind fun x30 => (if ((dhas a1 a3) && (dhas a2 a3)) = true then (dget a1 a3).bind fun x37 => (dget a2 a3).bind fun x38 => (M_united x37 x38).bind fun r39 => grd (x30.length < sizeLine) (some (dput x30 a3 r39)) else (if (dhas x30 a3) = true then grd (dhas x30 a3 = true) (some (ddel x30 a3)) else some x30).bind fun s43 => some s43).bind fun s35 => some s35) (s_letO (i := 3) (oMO (κ := Str) (oL pInt)) sc_join_boxes.nd (o_kd (E := fun (b_ : ((Unit × Unit) × (List (Str × List Int)))) => (oMO (κ := Str) (oL pInt)) b_.2) (x_FF_o (kk := 2) (E1 := (pM (κ := Str) (pL pInt))) (E2 := (pM (κ := Str) (pL pInt))) k_meet_boxes (hr.mono (by decide)) g_meet_boxes F_meet_boxes.kp b_meet_boxes (x_var (p := (pM (κ := Str) (pL pInt)) a1) 0) (fun _ => x_var (p := (pM (κ := Str) (pL pInt)) a2) 1))) fun (b31 : ((Unit × Unit) × (List (Str × List Int)))) x30 v33 => s_T (T := (if ((dhas a1 a3) && (dhas a2 a3)) = true then (dget a1 a3).bind fun x37 => (dget a2 a3).bind fun x38 => (M_united x37 x38).bind fun r39 => grd (x30.length < sizeLine) (some (dput x30 a3 r39)) else (if (dhas x30 a3) = true then grd (dhas x30 a3 = true) (some (ddel x30 a3)) else some x30).bind fun s43 => some s43).bind fun s35 => some s35) (s_ifN (C := fun s_ : (List (Str × List Int)) => ([some ((pM (κ := Str) (pL pInt)) a1), some ((pM (κ := Str) (pL pInt)) a2), some (pStr a3), some (pV v33)], [⟨v33, (oMO (κ := Str) (oL pInt)) s_, none⟩])) (t_kd (c := fun (b_ : Unit) => ((dhas a1 a3) && (dhas a2 a3))) (PW.pt (w_and (t_totV (dhas a1 a3) ((), ()) (fun _ => rfl) (by exact (t_kd (c := fun (b_ : (Unit × Unit)) => (dhas a1 a3)) (t_din (κ := Str) (Ee := (pL pInt)) hr.units (y_var (p := pStr a3) 2) (fun _ => y_var (p := (pM (κ := Str) (pL pInt)) a1) 0) (fun _ _ => rdMF))))) (w_and1 (t_totV (dhas a2 a3) ((), ()) (fun _ => rfl) (by exact (t_kd (c := fun (b_ : (Unit × Unit)) => (dhas a2 a3)) (t_din (κ := Str) (Ee := (pL pInt)) hr.units (y_var (p := pStr a3) 2) (fun _ => y_var (p := (pM (κ := Str) (pL pInt)) a2) 1) (fun _ _ => rdMF))))))))) (fun (b34 : Unit) => s_T (T := (dget a1 a3).bind fun x37 => (dget a2 a3).bind fun x38 => (M_united x37 x38).bind fun r39 => grd (x30.length < sizeLine) (some (dput x30 a3 r39))) (s_putFO (κ := Str) (D := (oL pInt)) 0 hr.units (o_kd (E := fun (b_ : ((((Unit × Unit) × (List Int)) × ((Unit × Unit) × (List Int))) × (List Int))) => (oL pInt) b_.2) (x_FF_o (kk := 1) (E1 := (pL pInt)) (E2 := (pL pInt)) k_united (hr.mono (by decide)) g_united F_united.kp b_united (x_kd (E := fun (b_ : ((Unit × Unit) × (List Int))) => (pL pInt) b_.2) (x_dget (κ := Str) (Ee := (pL pInt)) hr.units (x_var (p := (pM (κ := Str) (pL pInt)) a1) 0) (fun _ => x_var (p := pStr a3) 2) (fun _ _ => rdMF))) (fun _ => x_kd (E := fun (b_ : ((Unit × Unit) × (List Int))) => (pL pInt) b_.2) (x_dget (κ := Str) (Ee := (pL pInt)) hr.units (x_var (p := (pM (κ := Str) (pL pInt)) a2) 1) (fun _ => x_var (p := pStr a3) 2) (fun _ _ => rdMF))))) (fun _ vt_ => f_var (D := (oMO (κ := Str) (oL pInt))) (x_var (p := pV v33) 3)) (fun _ _ vt_ => x_var (p := pStr a3) 2) (fun _ => rfl) fun (b41 : ((((((Unit × Unit) × (List Int)) × ((Unit × Unit) × (List Int))) × (List Int)) × Unit) × Unit)) => s_end (dput x30 a3 b41.1.1.2) rfl ⟨rfl, rfl, rfl, rfl, trivial⟩ (List.Sublist.refl _))) (fun (b34 : Unit) => s_T (T := (if (dhas x30 a3) = true then grd (dhas x30 a3 = true) (some (ddel x30 a3)) else some x30).bind fun s43 => some s43) (s_ifN (C := fun s_ : (List (Str × List Int)) => ([some ((pM (κ := Str) (pL pInt)) a1), some ((pM (κ := Str) (pL pInt)) a2), some (pStr a3), some (pV v33)], [⟨v33, (oMO (κ := Str) (oL pInt)) s_, none⟩])) (t_kd (c := fun (b_ : (Unit × Unit)) => (dhas x30 a3)) (t_lockG (d := (oMO (κ := Str) (oL pInt)) x30) 0 3 (by exact t_din (κ := Str) (Ee := (pL pInt)) hr.units (x_var (p := pStr a3) 2) (fun _ => x_var (p := (pM (κ := Str) (pL pInt)) x30) 3) (fun _ _ => rdMF)))) (fun (b42 : (Unit × Unit)) => s_T (T := grd (dhas x30 a3 = true) (some (ddel x30 a3))) (s_delFO (κ := Str) (D := (oL pInt)) 0 (f_var (D := (oMO (κ := Str) (oL pInt))) (x_var (p := pV v33) 3)) (fun _ => x_var (p := pStr a3) 2) fun (b44 : (Unit × Unit)) => s_end (ddel x30 a3) rfl ⟨rfl, rfl, rfl, rfl, trivial⟩ (List.Sublist.refl _))) (fun (b42 : (Unit × Unit)) => s_end x30 rfl ⟨rfl, rfl, rfl, rfl, trivial⟩ (List.Sublist.refl _)) fun (b42 : (Unit × Unit)) s43 => s_end s43 rfl ⟨rfl, rfl, rfl, rfl, trivial⟩ (List.Sublist.refl _))) fun (b34 : Unit) s35 => s_T (T := some s35) (s_retV 0 (P := (fun _ => [])) (Ro := (oMO (κ := Str) (oL pInt))) (ι := id) (rv := fun _ => s35) (fun _ _ _ h => h) (x_var (p := pV v33) 3) (fun _ => rfl) (fun _ => List.Sublist.refl _))))) (by unfold M_join_boxes; rfl)
end
end My
end
section
set_option Elab.async false
set_option linter.all false
set_option maxRecDepth 100000
set_option maxHeartbeats 4000000
set_option pp.maxSteps 200
namespace My
open PySem PySem.Spec PyProof.Rows L2 L3
section
variable {P : Program} {w : World} {K : PySem.W.Frag} {mg : Str → Option Value} {base : Heap}
theorem sc_run_plan : FnScope ["boxes", "steps", "known", "position", "step", "number", "box", "name", "first", "second"] ["boxes", "steps"] (defScope (top 34)) := ⟨rfl, rfl, rfl, by decide +kernel, rfl, by decide +kernel, by decide +kernel⟩
theorem ok_run_plan {f : Addr} {fd : FuncData} (C : Ev P K mg) (FD : FnP K "run_plan" (top 34) f fd)   : FnOk P w K mg base (L2.CX P w) 4 f fd ["boxes", "steps"] (SpXo (fun (a : (List (List (Str × List Int))) × (List (Str × Int × Int))) => ([(pL (pM (κ := Str) (pL pInt))) a.1, (pL (pT3 pStr pInt pInt)) a.2] : List Pd)) (fun (a : (List (List (Str × List Int))) × (List (Str × Int × Int))) => M_run_plan a.1 a.2) (oLO (oMO (κ := Str) (oL pInt))) (erX mg rsL)) := by
  obtain ⟨fI_BadStep, tx_BadStep⟩ := (C.xs.x "BadStep" (by decide +kernel)).tx
  have m_enumerate := C.m_enumerate
  have m_len := C.m_len
  obtain ⟨f_copy_box, fd_copy_box, F_copy_box, g_copy_box⟩ := C.f_copy_box
  have k_copy_box := ok_copy_box (P := P) (w := w) (base := base) C F_copy_box
  have b_copy_box : Binds K fd_copy_box ["box"] [] := F_copy_box.bindsN fun _ _ _ _ _ _ us hl => match us, hl with | [_], _ => rfl
  obtain ⟨f_join_boxes, fd_join_boxes, F_join_boxes, g_join_boxes⟩ := C.f_join_boxes
  have k_join_boxes := ok_join_boxes (P := P) (w := w) (base := base) C F_join_boxes
  have b_join_boxes : Binds K fd_join_boxes ["first", "second", "name"] [] := F_join_boxes.bindsN fun _ _ _ _ _ _ us hl => match us, hl with | [_, _, _], _ => rfl
  refine fn_Xo (A := (fun (a : (List (List (Str × List Int))) × (List (Str × Int × Int))) => ([(pL (pM (κ := Str) (pL pInt))) a.1, (pL (pT3 pStr pInt pInt)) a.2] : List Pd))) (Mf := (fun (a : (List (List (Str × List Int))) × (List (Str × Int × Int))) => M_run_plan a.1 a.2)) FD sc_run_plan (fun _ => rfl) rfl fun cdv A outer s H E hr ⟨a1, a2⟩ tk => ?_
  exact s_is (s_T (T := (lcM a1 [] (fun x46 => (M_copy_box x46).bind fun r48 => some r48)).bind fun r49 => (some (r49 : List (List (Str × List Int)))).bind fun x50 => (forL (enumL a2) (x50 : (List (List (Str × List Int)))) fun x56 s55 => (some (x56.2 : (Str × Int × Int))).bind fun x59 => (forL ([x59.2.1, x59.2.2]) (() : Unit) fun x63 s62 => if (!((decide ((0 : Int) ≤ x63)) && (decide (x63 < (s55.length : Int))))) = true then inB (some ((fun e => Tm.rt ((Except.error) e)) (⟨"BadStep", [.int (x56.1)]⟩ : Er))) else some (Bo.nx ())).bind (boK (fun s64 => (atI s55 (x59.2.1)).bind fun x65 => (atI s55 (x59.2.2)).bind fun x66 => (M_join_boxes x65 x66 (x59.1)).bind fun r67 => grd (s55.length < sizeLine) (some (Bo.nx (s55 ++ [r67])))) (fun r => Bo.tm (Tm.rt r)))).bind (boK (fun s57 => some (Except.ok (ε := Er) s57)) id)) (s_letOA (i := 2) (oLO (oMO (κ := Str) (oL pInt))) (a_lcO (i := 2) (own := [("box", 6)]) (δ := (List (Str × List Int))) (D := (oMO (κ := Str) (oL pInt))) (Ex := (pM (κ := Str) (pL pInt))) (f := fun (b_ : Unit) (x_ : List (Str × List Int)) => (M_copy_box x_).bind fun r48 => some r48) (y := fun (b_ : Unit) (x_ : List (Str × List Int)) (d_ : (Unit × (List (Str × List Int)))) => d_.2) sc_run_plan.nd (i_list (x_var (p := (pL (pM (κ := Str) (pL pInt))) a1) 0)) (blkOk_by (own := [("box", 6)]) (N := ["boxes", "steps", "known", "position", "step", "number", "box", "name", "first", "second"]) (sc := defScope (top 34)) (by decide +kernel)) (fun _ _ _ _ _ => pg_name (i := 6) sc_run_plan.nd rfl (by first | exact .inl rfl | exact .inr rfl)) (tw_name 6) (by exact fun q47 _ _ _ _ _ b45 x46 => o_T (o_kd (E := fun (b_ : (Unit × (List (Str × List Int)))) => (oMO (κ := Str) (oL pInt)) b_.2) (x_F_o (kk := 1) (E1 := (pM (κ := Str) (pL pInt))) k_copy_box (hr.mono (by decide)) g_copy_box F_copy_box.kp b_copy_box (x_var (p := (pM (κ := Str) (pL pInt)) x46) 6))) (by rfl)) (sw_true rfl rfl rfl (by decide +kernel))) fun (b51 : (Unit × (List (List (Str × List Int))))) x50 v53 => s_T (T := (forL (enumL a2) (x50 : (List (List (Str × List Int)))) fun x56 s55 => (some (x56.2 : (Str × Int × Int))).bind fun x59 => (forL ([x59.2.1, x59.2.2]) (() : Unit) fun x63 s62 => if (!((decide ((0 : Int) ≤ x63)) && (decide (x63 < (s55.length : Int))))) = true then inB (some ((fun e => Tm.rt ((Except.error) e)) (⟨"BadStep", [.int (x56.1)]⟩ : Er))) else some (Bo.nx ())).bind (boK (fun s64 => (atI s55 (x59.2.1)).bind fun x65 => (atI s55 (x59.2.2)).bind fun x66 => (M_join_boxes x65 x66 (x59.1)).bind fun r67 => grd (s55.length < sizeLine) (some (Bo.nx (s55 ++ [r67])))) (fun r => Bo.tm (Tm.rt r)))).bind (boK (fun s57 => some (Except.ok (ε := Er) s57)) id)) (s_forX (passes_of rfl) (fun (b_ : Unit) (s_ : (List (List (Str × List Int)))) => ([some ((pL (pM (κ := Str) (pL pInt))) a1), some ((pL (pT3 pStr pInt pInt)) a2), some (pV v53), none, none, none, none, none, none, none], [⟨v53, (oLO (oMO (κ := Str) (oL pInt))) s_, none⟩])) (fun (b_ : Unit) => x50) (ι := id) (Tf := (fX (erX mg rsL) (fF (RO ⟨H, []⟩ (fun _ => []) (oLO (oMO (κ := Str) (oL pInt))))) ⟨H, []⟩ [] (fun _ _ => True) (wE E))) (i_enum m_enumerate (x_var (p := (pL (pT3 pStr pInt pInt)) a2) 1)) (pg_tup rfl (pgs_cons (pg_name (i := 3) sc_run_plan.nd rfl (by first | exact .inl rfl | exact .inr rfl)) (pgs_cons (pg_name (i := 4) sc_run_plan.nd rfl (by first | exact .inl rfl | exact .inr rfl)) pgs_nil))) (tg_pair 3 4) (fun _ => by exact ⟨rfl, rfl, rfl, trivial⟩) (fun _ => List.Sublist.refl _) (fun b54 x56 s55 => s_T (T := (some (x56.2 : (Str × Int × Int))).bind fun x59 => (forL ([x59.2.1, x59.2.2]) (() : Unit) fun x63 s62 => if (!((decide ((0 : Int) ≤ x63)) && (decide (x63 < (s55.length : Int))))) = true then inB (some ((fun e => Tm.rt ((Except.error) e)) (⟨"BadStep", [.int (x56.1)]⟩ : Er))) else some (Bo.nx ())).bind (boK (fun s64 => (atI s55 (x59.2.1)).bind fun x65 => (atI s55 (x59.2.2)).bind fun x66 => (M_join_boxes x65 x66 (x59.1)).bind fun r67 => grd (s55.length < sizeLine) (some (Bo.nx (s55 ++ [r67])))) (fun r => Bo.tm (Tm.rt r)))) (s_unp (Ex := (pT3 pStr pInt pInt)) (val := fun (b_ : Unit) => x56.2) (pg_tup rfl (pgs_cons (pg_name (i := 7) sc_run_plan.nd rfl (by first | exact .inl rfl | exact .inr rfl)) (pgs_cons (pg_name (i := 8) sc_run_plan.nd rfl (by first | exact .inl rfl | exact .inr rfl)) (pgs_cons (pg_name (i := 9) sc_run_plan.nd rfl (by first | exact .inl rfl | exact .inr rfl)) pgs_nil)))) (tg_trip 7 8 9) (x_var (p := (pT3 pStr pInt pInt) x56.2) 4) fun (b60 : Unit) x59 => s_T (T := (forL ([x59.2.1, x59.2.2]) (() : Unit) fun x63 s62 => if (!((decide ((0 : Int) ≤ x63)) && (decide (x63 < (s55.length : Int))))) = true then inB (some ((fun e => Tm.rt ((Except.error) e)) (⟨"BadStep", [.int (x56.1)]⟩ : Er))) else some (Bo.nx ())).bind (boK (fun s64 => (atI s55 (x59.2.1)).bind fun x65 => (atI s55 (x59.2.2)).bind fun x66 => (M_join_boxes x65 x66 (x59.1)).bind fun r67 => grd (s55.length < sizeLine) (some (Bo.nx (s55 ++ [r67])))) (fun r => Bo.tm (Tm.rt r)))) (s_forX (passes_of rfl) (fun (b_ : (Unit × (Unit × Unit))) (s_ : Unit) => ([some ((pL (pM (κ := Str) (pL pInt))) a1), some ((pL (pT3 pStr pInt pInt)) a2), some (pV v53), some (pInt x56.1), some ((pT3 pStr pInt pInt) x56.2), none, none, some (pStr x59.1), some (pInt x59.2.1), some (pInt x59.2.2)], [⟨v53, (oLO (oMO (κ := Str) (oL pInt))) s55, none⟩])) (fun (b_ : (Unit × (Unit × Unit))) => ()) (ι := (fun r => Bo.tm (Tm.rt r))) (Tf := (fX (erX mg rsL) (fF (RO ⟨H, []⟩ (fun _ => []) (oLO (oMO (κ := Str) (oL pInt))))) ⟨H, []⟩ [] (fun _ _ => True) (wE E))) (i_list (x_kd (E := fun (b_ : (Unit × (Unit × Unit))) => (pL pInt) ([x59.2.1, x59.2.2])) (x_frz (o_kd (E := fun (b_ : (Unit × (Unit × Unit))) => (oL pInt) ([x59.2.1, x59.2.2])) (x_disp pInt (fun _ => [_, _]) (a_cons (x_var (p := pInt x59.2.1) 8) (fun _ => a_cons (x_var (p := pInt x59.2.2) 9) (fun _ => a_nil))) (fun _ => rfl) (fun _ => by simp)))))) (pg_name (i := 5) sc_run_plan.nd rfl (by first | exact .inl rfl | exact .inr rfl)) (tg_name 5) (fun _ => by exact ⟨rfl, rfl, rfl, rfl, rfl, rfl, rfl, rfl, trivial⟩) (fun _ => List.Sublist.refl _) (fun b61 x63 s62 => s_T (T := if (!((decide ((0 : Int) ≤ x63)) && (decide (x63 < (s55.length : Int))))) = true then inB (some ((fun e => Tm.rt ((Except.error) e)) (⟨"BadStep", [.int (x56.1)]⟩ : Er))) else some (Bo.nx ())) (s_ifB (ins_Tg (insT_X (insT_F _))) (t_kd (c := fun (b_ : Unit) => (!((decide ((0 : Int) ≤ x63)) && (decide (x63 < (s55.length : Int)))))) (t_not (t_kd (c := fun (b_ : Unit) => ((decide ((0 : Int) ≤ x63)) && (decide (x63 < (s55.length : Int))))) (t_lockG (d := (oLO (oMO (κ := Str) (oL pInt))) s55) 0 2 (by exact t_chainI (i := (0 : Int)) (j := x63) (l := (s55.length : Int)) (y_int (i := 0)) (y_var (p := pInt x63) 5) (x_kd (E := fun (b_ : Unit) => pInt (s55.length : Int)) (x_lenL (Ee := (pM (κ := Str) (pL pInt))) m_len (y_var (p := (pL (pM (κ := Str) (pL pInt))) s55) 2) (fun _ => rdF)))))))) (fun (b69 : Unit) => s_T (T := some ((fun e => Tm.rt ((Except.error) e)) (⟨"BadStep", [.int (x56.1)]⟩ : Er))) (s_raise (er := fun (b : (Unit × Unit)) => (⟨"BadStep", [.int x56.1]⟩ : Er)) tk (ex_T ex_X) tx_BadStep (C.xs.x "BadStep" (by decide +kernel)).g C.xs.sup hr (a_cons (x_var (p := pInt x56.1) 3) (fun _ => a_nil)) (fun _ _ _ _ h => ⟨(show ("BadStep" : Str) ∈ rsL from by decide +kernel), h⟩) (fun _ => (by decide +kernel : 1 = (fieldsOf "BadStep").length)) (by decide +kernel) (fun _ => (List.nil_sublist _)) (fun _ _ _ => trivial))) fun (b69 : Unit) => s_endB () ⟨rfl, rfl, rfl, rfl, rfl, rfl, rfl, rfl, trivial⟩ (List.Sublist.refl _))) (fun b61 s64 => s_T (T := (atI s55 (x59.2.1)).bind fun x65 => (atI s55 (x59.2.2)).bind fun x66 => (M_join_boxes x65 x66 (x59.1)).bind fun r67 => grd (s55.length < sizeLine) (some (Bo.nx (s55 ++ [r67])))) (s_expr (x_appO 0 (x_var (p := pV v53) 2) (fun _ => o_kd (E := fun (b_ : ((((Unit × Unit) × (List (Str × List Int))) × (((Unit × Unit) × (List (Str × List Int))) × Unit)) × (List (Str × List Int)))) => (oMO (κ := Str) (oL pInt)) b_.2) (o_lockG (d := (oLO (oMO (κ := Str) (oL pInt))) s55) 0 2 foMOL (x_FFF_o (kk := 3) (E1 := (pM (κ := Str) (pL pInt))) (E2 := (pM (κ := Str) (pL pInt))) (E3 := pStr) k_join_boxes (hr.mono (by decide)) g_join_boxes F_join_boxes.kp b_join_boxes (x_kd (E := fun (b_ : ((Unit × Unit) × (List (Str × List Int)))) => (pM (κ := Str) (pL pInt)) b_.2) (x_ixL (Ee := (pM (κ := Str) (pL pInt))) (x_var (p := (pL (pM (κ := Str) (pL pInt))) s55) 2) (fun _ => x_var (p := pInt x59.2.1) 8) (fun _ _ => rdF))) (fun _ => x_kd (E := fun (b_ : ((Unit × Unit) × (List (Str × List Int)))) => (pM (κ := Str) (pL pInt)) b_.2) (x_ixL (Ee := (pM (κ := Str) (pL pInt))) (x_var (p := (pL (pM (κ := Str) (pL pInt))) s55) 2) (fun _ => x_var (p := pInt x59.2.2) 9) (fun _ _ => rdF))) (fun _ _ => x_var (p := pStr x59.1) 7)))) (fun _ => rfl) (fun _ _ => rfl)) fun (b68 : (Unit × ((((Unit × Unit) × (List (Str × List Int))) × (((Unit × Unit) × (List (Str × List Int))) × Unit)) × (List (Str × List Int))))) => s_endB (s55 ++ [b68.2.2]) ⟨rfl, rfl, rfl, trivial⟩ (List.Sublist.refl _))) (fun _ _ _ h => h) (insT_X (insT_F _))))) (fun b54 s57 => s_T (T := some (Except.ok (ε := Er) s57)) (s_retV 0 (P := (fun _ => [])) (Ro := (oLO (oMO (κ := Str) (oL pInt)))) (ι := (Except.ok (ε := Er))) (rv := fun _ => s57) (fun _ _ _ h => h) (x_var (p := pV v53) 2) (fun _ => rfl) (fun _ => List.Sublist.refl _))) (fun _ _ _ h => h) (insT_X (insT_F _))))) (by unfold M_run_plan; rfl)
end
end My
end
section
set_option Elab.async false
set_option linter.all false
set_option maxRecDepth 100000
set_option maxHeartbeats 4000000
set_option pp.maxSteps 200
namespace My
open PySem PySem.Spec PyProof.Rows L2 L3
section
variable {P : Program} {w : World} {K : PySem.W.Frag} {mg : Str → Option Value} {base : Heap}
theorem sc_l_is_integer : FnScope ["_law_actual"] ["_law_actual"] (defScope (top 36)) := ⟨rfl, rfl, rfl, by decide +kernel, rfl, by decide +kernel, by decide +kernel⟩
theorem ok_l_is_integer {f : Addr} {fd : FuncData} (C : Ev P K mg) (FD : FnP K "_law_is_integer" (top 36) f fd)   : FnOk P w K mg base CX0 1 f fd ["_law_actual"] (Sp_F_f pInt M_l_is_integer pBl) := by
  have m_bool := C.m_bool
  have m_int := C.m_int
  have m_isinstance := C.m_isinstance
  refine fn_F_f FD sc_l_is_integer rfl fun cdv A outer s H E hr  a1 => ?_
  exact s_is (s_T (T := some (true && (!false))) (s_ret (P := (fun _ => [])) (Rp := pBl) (ι := id) (rv := fun (b : Unit) => (true && (!false))) (fun _ _ _ h => h) (x_kd (E := fun (b_ : Unit) => pBl (true && (!false))) (v_and (x_totV (pBl true) () (fun _ => rfl) (by exact (x_kd (E := fun (b_ : Unit) => pBl true) (x_isi (cn := "int") (fun _ => "int") (fun _ => true) m_isinstance m_int (y_var (p := pInt a1) 0) (fun _ => tyInt) (fun _ => by decide +kernel) (by decide +kernel))))) (v_one (x_totV (pBl (!false)) () (fun _ => rfl) (by exact (x_kd (E := fun (b_ : Unit) => pBl (!false)) (x_not (x_kd (E := fun (b_ : Unit) => pBl false) (x_isi (cn := "bool") (fun _ => "int") (fun _ => false) m_isinstance m_bool (y_var (p := pInt a1) 0) (fun _ => tyInt) (fun _ => by decide +kernel) (by decide +kernel)))))))))) (fun _ => List.Sublist.refl _))) (by unfold M_l_is_integer; rfl)
end
end My
end
section
set_option Elab.async false
set_option linter.all false
set_option maxRecDepth 100000
set_option maxHeartbeats 4000000
set_option pp.maxSteps 200
namespace My
open PySem PySem.Spec PyProof.Rows L2 L3
section
variable {P : Program} {w : World} {K : PySem.W.Frag} {mg : Str → Option Value} {base : Heap}
theorem sc_l_is_integer_v_o : FnScope ["_law_actual"] ["_law_actual"] (defScope (top 36)) := ⟨rfl, rfl, rfl, by decide +kernel, rfl, by decide +kernel, by decide +kernel⟩
theorem ok_l_is_integer_v_o {f : Addr} {fd : FuncData} (C : Ev P K mg) (FD : FnP K "_law_is_integer" (top 36) f fd)   : FnOk P w K mg base CX0 1 f fd ["_law_actual"] (Sp_F_f (pOp pInt) M_l_is_integer_v_o pBl) := by
  have m_bool := C.m_bool
  have m_int := C.m_int
  have m_isinstance := C.m_isinstance
  refine fn_F_f FD sc_l_is_integer_v_o rfl fun cdv A outer s H E hr  a1 => ?_
  exact s_is (s_T (T := some ((oSel a1 false true) && (!(oSel a1 false false)))) (s_ret (P := (fun _ => [])) (Rp := pBl) (ι := id) (rv := fun (b : Unit) => ((oSel a1 false true) && (!(oSel a1 false false)))) (fun _ _ _ h => h) (x_kd (E := fun (b_ : Unit) => pBl ((oSel a1 false true) && (!(oSel a1 false false)))) (v_and (x_totV (pBl (oSel a1 false true)) () (fun _ => rfl) (by exact (x_kd (E := fun (b_ : Unit) => pBl (oSel a1 false true)) (x_isi (cn := "int") _ _ m_isinstance m_int (y_var (p := (pOp pInt) a1) 0) (fun _ => tyOp fun _ => tyInt) (fun _ => kitOp (r := false) (q := true) (by decide +kernel) (by decide +kernel)) (by decide +kernel))))) (v_one (x_totV (pBl (!(oSel a1 false false))) () (fun _ => rfl) (by exact (x_kd (E := fun (b_ : Unit) => pBl (!(oSel a1 false false))) (x_not (x_kd (E := fun (b_ : Unit) => pBl (oSel a1 false false)) (x_isi (cn := "bool") _ _ m_isinstance m_bool (y_var (p := (pOp pInt) a1) 0) (fun _ => tyOp fun _ => tyInt) (fun _ => kitOp (r := false) (q := false) (by decide +kernel) (by decide +kernel)) (by decide +kernel)))))))))) (fun _ => List.Sublist.refl _))) (by unfold M_l_is_integer_v_o; rfl)
end
end My
end
section
set_option Elab.async false
set_option linter.all false
set_option maxRecDepth 100000
set_option maxHeartbeats 4000000
set_option pp.maxSteps 200
namespace My
open PySem PySem.Spec PyProof.Rows L2 L3
section
variable {P : Program} {w : World} {K : PySem.W.Frag} {mg : Str → Option Value} {base : Heap}
theorem sc_l_stream : FnScope ["_law_script", "_law_k", "_law_cell"] ["_law_script", "_law_k"] (defScope (top 37)) := ⟨rfl, rfl, rfl, by decide +kernel, rfl, by decide +kernel, by decide +kernel⟩
theorem ok_l_stream {f : Addr} {fd : FuncData} (C : Ev P K mg) (FD : FnP K "_law_stream" (top 37) f fd)   : FnOk P w K mg base CX0 1 f fd ["_law_script", "_law_k"] (Sp_FF_o (pS K) pInt M_l_stream (oL pInt)) := by
  have m_int := C.m_int
  have m_len := C.m_len
  refine fn_FF_o FD sc_l_stream rfl fun cdv A outer s H E hr  a1 a2 => ?_
  exact s_is (s_T (T := (some ((0 : Int) : Int)).bind fun x70 => (if (decide (a2 < (a1.length : Int))) = true then (atI a1 a2).bind fun x74 => (some (x74 : Int)).bind fun x75 => some x75 else some x70).bind fun s73 => grd ((sm s73 || sm (if (decide (((10 : Int) ^ (18 : Int).toNat) ≤ s73)) then 1 else 0 : Int)) = true) (some ([(s73 * (if (decide (((10 : Int) ^ (18 : Int).toNat) ≤ s73)) then 1 else 0 : Int)), (0 : Int), s73]))) (s_let (i := 2) pInt sc_l_stream.nd (x_int (i := 0)) fun (b71 : Unit) x70 => s_T (T := (if (decide (a2 < (a1.length : Int))) = true then (atI a1 a2).bind fun x74 => (some (x74 : Int)).bind fun x75 => some x75 else some x70).bind fun s73 => grd ((sm s73 || sm (if (decide (((10 : Int) ^ (18 : Int).toNat) ≤ s73)) then 1 else 0 : Int)) = true) (some ([(s73 * (if (decide (((10 : Int) ^ (18 : Int).toNat) ≤ s73)) then 1 else 0 : Int)), (0 : Int), s73]))) (s_ifN (C := fun s_ : Int => ([some ((pS K) a1), some (pInt a2), some (pInt s_)], [])) (t_kd (c := fun (b_ : (Unit × Unit)) => (decide (a2 < (a1.length : Int)))) (t_lt (x_var (p := pInt a2) 1) (fun _ => x_kd (E := fun (b_ : Unit) => pInt (a1.length : Int)) (x_lenS m_len (x_var (p := (pS K) a1) 0))))) (fun (b72 : (Unit × Unit)) => s_T (T := (atI a1 a2).bind fun x74 => (some (x74 : Int)).bind fun x75 => some x75) (s_let (i := 2) pInt sc_l_stream.nd (x_kd (E := fun (b_ : ((Unit × Unit) × Int)) => pInt b_.2) (x_ixS (x_var (p := (pS K) a1) 0) (fun _ => x_var (p := pInt a2) 1))) fun (b76 : ((Unit × Unit) × Int)) x75 => s_end x75 rfl ⟨rfl, rfl, rfl, trivial⟩ (List.Sublist.refl _))) (fun (b72 : (Unit × Unit)) => s_end x70 rfl ⟨rfl, rfl, rfl, trivial⟩ (List.Sublist.refl _)) fun (b72 : (Unit × Unit)) s73 => s_T (T := grd ((sm s73 || sm (if (decide (((10 : Int) ^ (18 : Int).toNat) ≤ s73)) then 1 else 0 : Int)) = true) (some ([(s73 * (if (decide (((10 : Int) ^ (18 : Int).toNat) ≤ s73)) then 1 else 0 : Int)), (0 : Int), s73]))) (s_retO (P := (fun _ => [])) (Ro := (oL pInt)) (ι := id) (rv := fun (b : ((Unit × (Unit × (Unit × Unit))) × (Unit × (Unit × Unit)))) => [(s73 * (if (decide (((10 : Int) ^ (18 : Int).toNat) ≤ s73)) then 1 else 0 : Int)), (0 : Int), s73]) (fun _ _ _ h => h) (o_kd (o_kd (E := fun (b_ : ((Unit × (Unit × (Unit × Unit))) × (Unit × (Unit × Unit)))) => (oL pInt) ([(s73 * (if (decide (((10 : Int) ^ (18 : Int).toNat) ≤ s73)) then 1 else 0 : Int)), (0 : Int), s73])) (x_disp pInt (fun _ => [_, _, _]) (a_cons (x_kd (E := fun (b_ : (Unit × (Unit × (Unit × Unit)))) => pInt (s73 * (if (decide (((10 : Int) ^ (18 : Int).toNat) ≤ s73)) then 1 else 0 : Int))) (x_mul (x_var (p := pInt s73) 2) (fun _ => x_kd (E := fun (b_ : (Unit × (Unit × Unit))) => pInt (if (decide (((10 : Int) ^ (18 : Int).toNat) ≤ s73)) then 1 else 0 : Int)) (x_intB m_int (x_kd (E := fun (b_ : (Unit × (Unit × Unit))) => pBl (decide (((10 : Int) ^ (18 : Int).toNat) ≤ s73))) (x_ge (x_var (p := pInt s73) 2) (fun _ => x_kd (E := fun (b_ : (Unit × Unit)) => pInt ((10 : Int) ^ (18 : Int).toNat)) (x_pow (x_int (i := 10)) (fun _ => x_int (i := 18)) (fun _ _ => by decide))))))))) (fun _ => a_cons (x_int (i := 0)) (fun _ => a_cons (x_var (p := pInt s73) 2) (fun _ => a_nil)))) (fun _ => rfl) (fun _ => by simp)))) (fun _ => List.Sublist.refl _))))) (by unfold M_l_stream; rfl)
end
end My
end
section
set_option Elab.async false
set_option linter.all false
set_option maxRecDepth 100000
set_option maxHeartbeats 4000000
set_option pp.maxSteps 200
namespace My
open PySem PySem.Spec PyProof.Rows L2 L3
section
variable {P : Program} {w : World} {K : PySem.W.Frag} {mg : Str → Option Value} {base : Heap}
theorem sc_l_next : FnScope ["_law_stream_here", "_law_size", "_law_mixed", "_law_digit"] ["_law_stream_here", "_law_size"] (defScope (top 38)) := ⟨rfl, rfl, rfl, by decide +kernel, rfl, by decide +kernel, by decide +kernel⟩
theorem ok_l_next {f : Addr} {fd : FuncData} (C : Ev P K mg) (FD : FnP K "_law_next" (top 38) f fd)   : FnOk P w K mg base CX0 1 f fd ["_law_stream_here", "_law_size"] (Sp_OF_f (oL pInt) pInt M_l_next pInt) := by
  have m_int := C.m_int
  refine fn_OF_f FD sc_l_next rfl fun cdv A outer s H E hr v1 G1 a1 a2 => ?_
  exact s_is (s_T (T := (atI a1 (1 : Int)).bind fun x77 => (ixN a1.length (1 : Int)).bind fun (_ : Nat) => (atI (a1.set ((ixN a1.length (1 : Int)).getD 0) (x77 + (1 : Int))) (0 : Int)).bind fun x79 => if (decide ((0 : Int) < x79)) = true then (atI (a1.set ((ixN a1.length (1 : Int)).getD 0) (x77 + (1 : Int))) (0 : Int)).bind fun x81 => grd (0 < a2) ((some ((x81 % a2) : Int)).bind fun x82 => (atI (a1.set ((ixN a1.length (1 : Int)).getD 0) (x77 + (1 : Int))) (0 : Int)).bind fun x84 => grd (dv a2 = true) ((ixN (a1.set ((ixN a1.length (1 : Int)).getD 0) (x77 + (1 : Int))).length (0 : Int)).bind fun (_ : Nat) => some (x82, ((a1.set ((ixN a1.length (1 : Int)).getD 0) (x77 + (1 : Int))).set ((ixN (a1.set ((ixN a1.length (1 : Int)).getD 0) (x77 + (1 : Int))).length (0 : Int)).getD 0) (x84 / a2))))) else (atI (a1.set ((ixN a1.length (1 : Int)).getD 0) (x77 + (1 : Int))) (2 : Int)).bind fun x86 => (atI (a1.set ((ixN a1.length (1 : Int)).getD 0) (x77 + (1 : Int))) (1 : Int)).bind fun x87 => grd ((sm (7919 : Int) || sm x87) = true) (grd (0 < (2147483647 : Int)) ((some ((((x86 + ((7919 : Int) * x87)) + (13 : Int)) % (2147483647 : Int)) : Int)).bind fun x88 => grd ((sm x88 || sm (x88 + (48271 : Int))) = true) (grd (0 < (2147483629 : Int)) ((some (((x88 * (x88 + (48271 : Int))) % (2147483629 : Int)) : Int)).bind fun x90 => grd ((sm x90 || sm (x90 + (69621 : Int))) = true) ((atI (a1.set ((ixN a1.length (1 : Int)).getD 0) (x77 + (1 : Int))) (1 : Int)).bind fun x92 => grd ((sm (31 : Int) || sm x92) = true) (grd (0 < (2147483647 : Int)) ((some ((((x90 * (x90 + (69621 : Int))) + ((31 : Int) * x92)) % (2147483647 : Int)) : Int)).bind fun x93 => grd (dv (9 : Int) = true) (grd (0 < a2) (some (((x93 / (9 : Int)) % a2), (a1.set ((ixN a1.length (1 : Int)).getD 0) (x77 + (1 : Int)))))))))))))) (s_setL 0 (x_kd (E := fun (b_ : (((Unit × Unit) × Int) × Unit)) => pInt (b_.1.2 + (1 : Int))) (x_add (x_kd (E := fun (b_ : ((Unit × Unit) × Int)) => pInt b_.2) (x_ixL (Ee := pInt) (x_var (p := pV v1) 0) (fun _ => x_int (i := 1)) (fun _ _ => rdO 0))) (fun _ => x_int (i := 1)))) (fun _ => x_var (p := pV v1) 0) (fun _ _ => x_int (i := 1)) (fun _ _ _ => rfl) fun (b78 : (((((Unit × Unit) × Int) × Unit) × Unit) × Unit)) => s_T (T := (atI (a1.set ((ixN a1.length (1 : Int)).getD 0) (b78.1.1.1.2 + (1 : Int))) (0 : Int)).bind fun x79 => if (decide ((0 : Int) < x79)) = true then (atI (a1.set ((ixN a1.length (1 : Int)).getD 0) (b78.1.1.1.2 + (1 : Int))) (0 : Int)).bind fun x81 => grd (0 < a2) ((some ((x81 % a2) : Int)).bind fun x82 => (atI (a1.set ((ixN a1.length (1 : Int)).getD 0) (b78.1.1.1.2 + (1 : Int))) (0 : Int)).bind fun x84 => grd (dv a2 = true) ((ixN (a1.set ((ixN a1.length (1 : Int)).getD 0) (b78.1.1.1.2 + (1 : Int))).length (0 : Int)).bind fun (_ : Nat) => some (x82, ((a1.set ((ixN a1.length (1 : Int)).getD 0) (b78.1.1.1.2 + (1 : Int))).set ((ixN (a1.set ((ixN a1.length (1 : Int)).getD 0) (b78.1.1.1.2 + (1 : Int))).length (0 : Int)).getD 0) (x84 / a2))))) else (atI (a1.set ((ixN a1.length (1 : Int)).getD 0) (b78.1.1.1.2 + (1 : Int))) (2 : Int)).bind fun x86 => (atI (a1.set ((ixN a1.length (1 : Int)).getD 0) (b78.1.1.1.2 + (1 : Int))) (1 : Int)).bind fun x87 => grd ((sm (7919 : Int) || sm x87) = true) (grd (0 < (2147483647 : Int)) ((some ((((x86 + ((7919 : Int) * x87)) + (13 : Int)) % (2147483647 : Int)) : Int)).bind fun x88 => grd ((sm x88 || sm (x88 + (48271 : Int))) = true) (grd (0 < (2147483629 : Int)) ((some (((x88 * (x88 + (48271 : Int))) % (2147483629 : Int)) : Int)).bind fun x90 => grd ((sm x90 || sm (x90 + (69621 : Int))) = true) ((atI (a1.set ((ixN a1.length (1 : Int)).getD 0) (b78.1.1.1.2 + (1 : Int))) (1 : Int)).bind fun x92 => grd ((sm (31 : Int) || sm x92) = true) (grd (0 < (2147483647 : Int)) ((some ((((x90 * (x90 + (69621 : Int))) + ((31 : Int) * x92)) % (2147483647 : Int)) : Int)).bind fun x93 => grd (dv (9 : Int) = true) (grd (0 < a2) (some (((x93 / (9 : Int)) % a2), (a1.set ((ixN a1.length (1 : Int)).getD 0) (b78.1.1.1.2 + (1 : Int)))))))))))))) (s_ifT (ins_F _) (t_kd (c := fun (b_ : (((Unit × Unit) × Int) × Unit)) => (decide ((0 : Int) < b_.1.2))) (t_gt (x_kd (E := fun (b_ : ((Unit × Unit) × Int)) => pInt b_.2) (x_ixL (Ee := pInt) (x_var (p := pV v1) 0) (fun _ => x_int (i := 0)) (fun _ _ => rdO 0))) (fun _ => x_int (i := 0)))) (fun (b80 : (((Unit × Unit) × Int) × Unit)) => s_T (T := (atI (a1.set ((ixN a1.length (1 : Int)).getD 0) (b78.1.1.1.2 + (1 : Int))) (0 : Int)).bind fun x81 => grd (0 < a2) ((some ((x81 % a2) : Int)).bind fun x82 => (atI (a1.set ((ixN a1.length (1 : Int)).getD 0) (b78.1.1.1.2 + (1 : Int))) (0 : Int)).bind fun x84 => grd (dv a2 = true) ((ixN (a1.set ((ixN a1.length (1 : Int)).getD 0) (b78.1.1.1.2 + (1 : Int))).length (0 : Int)).bind fun (_ : Nat) => some (x82, ((a1.set ((ixN a1.length (1 : Int)).getD 0) (b78.1.1.1.2 + (1 : Int))).set ((ixN (a1.set ((ixN a1.length (1 : Int)).getD 0) (b78.1.1.1.2 + (1 : Int))).length (0 : Int)).getD 0) (x84 / a2)))))) (s_let (i := 3) pInt sc_l_next.nd (x_kd (E := fun (b_ : (((Unit × Unit) × Int) × Unit)) => pInt (b_.1.2 % a2)) (x_mod (x_kd (E := fun (b_ : ((Unit × Unit) × Int)) => pInt b_.2) (x_intI m_int (x_kd (E := fun (b_ : ((Unit × Unit) × Int)) => pInt b_.2) (x_ixL (Ee := pInt) (x_var (p := pV v1) 0) (fun _ => x_int (i := 0)) (fun _ _ => rdO 0))))) (fun _ => x_var (p := pInt a2) 1))) fun (b83 : (((Unit × Unit) × Int) × Unit)) x82 => s_T (T := (atI (a1.set ((ixN a1.length (1 : Int)).getD 0) (b78.1.1.1.2 + (1 : Int))) (0 : Int)).bind fun x84 => grd (dv a2 = true) ((ixN (a1.set ((ixN a1.length (1 : Int)).getD 0) (b78.1.1.1.2 + (1 : Int))).length (0 : Int)).bind fun (_ : Nat) => some (x82, ((a1.set ((ixN a1.length (1 : Int)).getD 0) (b78.1.1.1.2 + (1 : Int))).set ((ixN (a1.set ((ixN a1.length (1 : Int)).getD 0) (b78.1.1.1.2 + (1 : Int))).length (0 : Int)).getD 0) (x84 / a2))))) (s_setL 0 (x_kd (E := fun (b_ : (((Unit × Unit) × Int) × Unit)) => pInt (b_.1.2 / a2)) (x_fdiv (x_kd (E := fun (b_ : ((Unit × Unit) × Int)) => pInt b_.2) (x_ixL (Ee := pInt) (x_var (p := pV v1) 0) (fun _ => x_int (i := 0)) (fun _ _ => rdO 0))) (fun _ => x_var (p := pInt a2) 1))) (fun _ => x_var (p := pV v1) 0) (fun _ _ => x_int (i := 0)) (fun _ _ _ => rfl) fun (b85 : (((((Unit × Unit) × Int) × Unit) × Unit) × Unit)) => s_T (T := some (x82, ((a1.set ((ixN a1.length (1 : Int)).getD 0) (b78.1.1.1.2 + (1 : Int))).set ((ixN (a1.set ((ixN a1.length (1 : Int)).getD 0) (b78.1.1.1.2 + (1 : Int))).length (0 : Int)).getD 0) (b85.1.1.1.2 / a2)))) (s_ret (P := (fun (r : Int × (List Int)) => [⟨v1, (oL pInt) r.2, some 0⟩])) (Rp := (fun (r : Int × (List Int)) => pInt r.1)) (ι := id) (rv := fun (b : Unit) => (x82, ((a1.set ((ixN a1.length (1 : Int)).getD 0) (b78.1.1.1.2 + (1 : Int))).set ((ixN (a1.set ((ixN a1.length (1 : Int)).getD 0) (b78.1.1.1.2 + (1 : Int))).length (0 : Int)).getD 0) (b85.1.1.1.2 / a2)))) (fun _ _ _ h => h) (x_var (p := pInt x82) 3) (fun _ => List.Sublist.refl _))))) fun (b80 : (((Unit × Unit) × Int) × Unit)) => s_T (T := (atI (a1.set ((ixN a1.length (1 : Int)).getD 0) (b78.1.1.1.2 + (1 : Int))) (2 : Int)).bind fun x86 => (atI (a1.set ((ixN a1.length (1 : Int)).getD 0) (b78.1.1.1.2 + (1 : Int))) (1 : Int)).bind fun x87 => grd ((sm (7919 : Int) || sm x87) = true) (grd (0 < (2147483647 : Int)) ((some ((((x86 + ((7919 : Int) * x87)) + (13 : Int)) % (2147483647 : Int)) : Int)).bind fun x88 => grd ((sm x88 || sm (x88 + (48271 : Int))) = true) (grd (0 < (2147483629 : Int)) ((some (((x88 * (x88 + (48271 : Int))) % (2147483629 : Int)) : Int)).bind fun x90 => grd ((sm x90 || sm (x90 + (69621 : Int))) = true) ((atI (a1.set ((ixN a1.length (1 : Int)).getD 0) (b78.1.1.1.2 + (1 : Int))) (1 : Int)).bind fun x92 => grd ((sm (31 : Int) || sm x92) = true) (grd (0 < (2147483647 : Int)) ((some ((((x90 * (x90 + (69621 : Int))) + ((31 : Int) * x92)) % (2147483647 : Int)) : Int)).bind fun x93 => grd (dv (9 : Int) = true) (grd (0 < a2) (some (((x93 / (9 : Int)) % a2), (a1.set ((ixN a1.length (1 : Int)).getD 0) (b78.1.1.1.2 + (1 : Int)))))))))))))) (s_let (i := 2) pInt sc_l_next.nd (x_kd (E := fun (b_ : (((((Unit × Unit) × Int) × (Unit × ((Unit × Unit) × Int))) × Unit) × Unit)) => pInt (((b_.1.1.1.2 + ((7919 : Int) * b_.1.1.2.2.2)) + (13 : Int)) % (2147483647 : Int))) (x_mod (x_kd (E := fun (b_ : ((((Unit × Unit) × Int) × (Unit × ((Unit × Unit) × Int))) × Unit)) => pInt ((b_.1.1.2 + ((7919 : Int) * b_.1.2.2.2)) + (13 : Int))) (x_intI m_int (x_kd (E := fun (b_ : ((((Unit × Unit) × Int) × (Unit × ((Unit × Unit) × Int))) × Unit)) => pInt ((b_.1.1.2 + ((7919 : Int) * b_.1.2.2.2)) + (13 : Int))) (x_add (x_kd (E := fun (b_ : (((Unit × Unit) × Int) × (Unit × ((Unit × Unit) × Int)))) => pInt (b_.1.2 + ((7919 : Int) * b_.2.2.2))) (x_add (x_kd (E := fun (b_ : ((Unit × Unit) × Int)) => pInt b_.2) (x_ixL (Ee := pInt) (x_var (p := pV v1) 0) (fun _ => x_int (i := 2)) (fun _ _ => rdO 0))) (fun _ => x_kd (E := fun (b_ : (Unit × ((Unit × Unit) × Int))) => pInt ((7919 : Int) * b_.2.2)) (x_mul (x_int (i := 7919)) (fun _ => x_kd (E := fun (b_ : ((Unit × Unit) × Int)) => pInt b_.2) (x_ixL (Ee := pInt) (x_var (p := pV v1) 0) (fun _ => x_int (i := 1)) (fun _ _ => rdO 0))))))) (fun _ => x_int (i := 13)))))) (fun _ => x_int (i := 2147483647)))) fun (b89 : (((((Unit × Unit) × Int) × (Unit × ((Unit × Unit) × Int))) × Unit) × Unit)) x88 => s_T (T := grd ((sm x88 || sm (x88 + (48271 : Int))) = true) (grd (0 < (2147483629 : Int)) ((some (((x88 * (x88 + (48271 : Int))) % (2147483629 : Int)) : Int)).bind fun x90 => grd ((sm x90 || sm (x90 + (69621 : Int))) = true) ((atI (a1.set ((ixN a1.length (1 : Int)).getD 0) (b78.1.1.1.2 + (1 : Int))) (1 : Int)).bind fun x92 => grd ((sm (31 : Int) || sm x92) = true) (grd (0 < (2147483647 : Int)) ((some ((((x90 * (x90 + (69621 : Int))) + ((31 : Int) * x92)) % (2147483647 : Int)) : Int)).bind fun x93 => grd (dv (9 : Int) = true) (grd (0 < a2) (some (((x93 / (9 : Int)) % a2), (a1.set ((ixN a1.length (1 : Int)).getD 0) (b78.1.1.1.2 + (1 : Int)))))))))))) (s_let (i := 2) pInt sc_l_next.nd (x_kd (E := fun (b_ : ((Unit × (Unit × Unit)) × Unit)) => pInt ((x88 * (x88 + (48271 : Int))) % (2147483629 : Int))) (x_mod (x_kd (E := fun (b_ : (Unit × (Unit × Unit))) => pInt (x88 * (x88 + (48271 : Int)))) (x_intI m_int (x_kd (E := fun (b_ : (Unit × (Unit × Unit))) => pInt (x88 * (x88 + (48271 : Int)))) (x_mul (x_var (p := pInt x88) 2) (fun _ => x_kd (E := fun (b_ : (Unit × Unit)) => pInt (x88 + (48271 : Int))) (x_add (x_var (p := pInt x88) 2) (fun _ => x_int (i := 48271)))))))) (fun _ => x_int (i := 2147483629)))) fun (b91 : ((Unit × (Unit × Unit)) × Unit)) x90 => s_T (T := grd ((sm x90 || sm (x90 + (69621 : Int))) = true) ((atI (a1.set ((ixN a1.length (1 : Int)).getD 0) (b78.1.1.1.2 + (1 : Int))) (1 : Int)).bind fun x92 => grd ((sm (31 : Int) || sm x92) = true) (grd (0 < (2147483647 : Int)) ((some ((((x90 * (x90 + (69621 : Int))) + ((31 : Int) * x92)) % (2147483647 : Int)) : Int)).bind fun x93 => grd (dv (9 : Int) = true) (grd (0 < a2) (some (((x93 / (9 : Int)) % a2), (a1.set ((ixN a1.length (1 : Int)).getD 0) (b78.1.1.1.2 + (1 : Int)))))))))) (s_let (i := 2) pInt sc_l_next.nd (x_kd (E := fun (b_ : (((Unit × (Unit × Unit)) × (Unit × ((Unit × Unit) × Int))) × Unit)) => pInt (((x90 * (x90 + (69621 : Int))) + ((31 : Int) * b_.1.2.2.2)) % (2147483647 : Int))) (x_mod (x_kd (E := fun (b_ : ((Unit × (Unit × Unit)) × (Unit × ((Unit × Unit) × Int)))) => pInt ((x90 * (x90 + (69621 : Int))) + ((31 : Int) * b_.2.2.2))) (x_intI m_int (x_kd (E := fun (b_ : ((Unit × (Unit × Unit)) × (Unit × ((Unit × Unit) × Int)))) => pInt ((x90 * (x90 + (69621 : Int))) + ((31 : Int) * b_.2.2.2))) (x_add (x_kd (E := fun (b_ : (Unit × (Unit × Unit))) => pInt (x90 * (x90 + (69621 : Int)))) (x_mul (x_var (p := pInt x90) 2) (fun _ => x_kd (E := fun (b_ : (Unit × Unit)) => pInt (x90 + (69621 : Int))) (x_add (x_var (p := pInt x90) 2) (fun _ => x_int (i := 69621)))))) (fun _ => x_kd (E := fun (b_ : (Unit × ((Unit × Unit) × Int))) => pInt ((31 : Int) * b_.2.2)) (x_mul (x_int (i := 31)) (fun _ => x_kd (E := fun (b_ : ((Unit × Unit) × Int)) => pInt b_.2) (x_ixL (Ee := pInt) (x_var (p := pV v1) 0) (fun _ => x_int (i := 1)) (fun _ _ => rdO 0))))))))) (fun _ => x_int (i := 2147483647)))) fun (b94 : (((Unit × (Unit × Unit)) × (Unit × ((Unit × Unit) × Int))) × Unit)) x93 => s_T (T := grd (dv (9 : Int) = true) (grd (0 < a2) (some (((x93 / (9 : Int)) % a2), (a1.set ((ixN a1.length (1 : Int)).getD 0) (b78.1.1.1.2 + (1 : Int))))))) (s_ret (P := (fun (r : Int × (List Int)) => [⟨v1, (oL pInt) r.2, some 0⟩])) (Rp := (fun (r : Int × (List Int)) => pInt r.1)) (ι := id) (rv := fun (b : ((Unit × Unit) × Unit)) => (((x93 / (9 : Int)) % a2), (a1.set ((ixN a1.length (1 : Int)).getD 0) (b78.1.1.1.2 + (1 : Int))))) (fun _ _ _ h => h) (x_kd (x_kd (E := fun (b_ : ((Unit × Unit) × Unit)) => pInt ((x93 / (9 : Int)) % a2)) (x_mod (x_kd (E := fun (b_ : (Unit × Unit)) => pInt (x93 / (9 : Int))) (x_intI m_int (x_kd (E := fun (b_ : (Unit × Unit)) => pInt (x93 / (9 : Int))) (x_fdiv (x_var (p := pInt x93) 2) (fun _ => x_int (i := 9)))))) (fun _ => x_var (p := pInt a2) 1)))) (fun _ => List.Sublist.refl _)))))))) (by unfold M_l_next; rfl)
end
end My
end
section
set_option Elab.async false
set_option linter.all false
set_option maxRecDepth 100000
set_option maxHeartbeats 4000000
set_option pp.maxSteps 200
namespace My
open PySem PySem.Spec PyProof.Rows L2 L3
section
variable {P : Program} {w : World} {K : PySem.W.Frag} {mg : Str → Option Value} {base : Heap}
theorem sc_l_names : FnScope ["_law_stream_here", "_law_count", "_law_letters", "_law_names_here", "_law_k", "_law_shift", "_law_plain", "_law_at", "_law_size", "_law_tail"] ["_law_stream_here", "_law_count"] (defScope (top 39)) := ⟨rfl, rfl, rfl, by decide +kernel, rfl, by decide +kernel, by decide +kernel⟩
theorem ok_l_names {f : Addr} {fd : FuncData} (C : Ev P K mg) (FD : FnP K "_law_names" (top 39) f fd)   : FnOk P w K mg base CX0 2 f fd ["_law_stream_here", "_law_count"] (Sp_OF_o (oL pInt) pInt M_l_names (oL pStr)) := by
  have m_int := C.m_int
  have m_range := C.m_range
  obtain ⟨f_l_next, fd_l_next, F_l_next, g_l_next⟩ := C.f_l_next
  have k_l_next := ok_l_next (P := P) (w := w) (base := base) C F_l_next
  have b_l_next : Binds K fd_l_next ["_law_stream_here", "_law_size"] [] := F_l_next.bindsN fun _ _ _ _ _ _ us hl => match us, hl with | [_, _], _ => rfl
  refine fn_OF_o FD sc_l_names rfl fun cdv A outer s H E hr v1 G1 a1 a2 => ?_
  exact s_is (s_T (T := (M_l_next a1 (3 : Int)).bind fun r95 => if (decide ((r95.1) = (0 : Int))) = true then (M_l_next (r95.2) (8 : Int)).bind fun r97 => (some (r97.1 : Int)).bind fun x98 => (some ([("x" : Str), ("yard" : Str), ("z" : Str), ("u" : Str), ("wide_one" : Str), ("q" : Str), ("pp" : Str), ("t" : Str)] : List Str)).bind fun x100 => grd (rg a2 = true) ((compM (rngL 0 a2.toNat) () (fun x103 s105 => if true = true then grd ((sm x103 || sm (3 : Int)) = true) (grd (0 < (8 : Int)) ((atI x100 (((x103 * (3 : Int)) + x98) % (8 : Int))).bind fun x107 => some (some x107, ()))) else some (none, ()))).bind fun r108 => some (r108.1, r97.2)) else (some (("qwertyuiopasdfghjklzxcvbnm_zyx" : Str) : Str)).bind fun x109 => (some ([] : List Str)).bind fun x111 => grd (rg a2 = true) ((forS (rngL 0 a2.toNat) ((x111, r95.2) : (List Str) × (List Int)) fun x117 s116 => (M_l_next (s116.2) (26 : Int)).bind fun r120 => (some (r120.1 : Int)).bind fun x121 => (M_l_next (r120.2) (3 : Int)).bind fun r123 => (some (((1 : Int) + (r123.1)) : Int)).bind fun x124 => (M_l_next (r123.2) (3 : Int)).bind fun r126 => grd (x109.length ≤ sizeLine) ((some ((cutS x109 (some ((26 : Int) - (r126.1))) (some (26 : Int))) : Str)).bind fun x127 => grd (x109.length ≤ sizeLine) (grd (("7305186429" : Str).length ≤ sizeLine) ((atI ("7305186429" : Str).cps.toList x117).bind fun x129 => grd ((cutS x109 (some x121) (some (x121 + x124))).length + (⟨#[x129]⟩ : Str).length ≤ sizeLine) (grd (((cutS x109 (some x121) (some (x121 + x124))) ++ (⟨#[x129]⟩ : Str)).length + x127.length ≤ sizeLine) (grd ((s116.1).length < sizeLine) (some (((s116.1) ++ [(((cutS x109 (some x121) (some (x121 + x124))) ++ (⟨#[x129]⟩ : Str)) ++ x127)]), r126.2)))))))).bind fun s118 => some (s118.1, s118.2))) (s_ifT (ins_F _) (t_kd (c := fun (b_ : (((Unit × Unit) × (Int × (List Int))) × Unit)) => (decide ((b_.1.2.1) = (0 : Int)))) (t_eqI (x_kd (E := fun (b_ : ((Unit × Unit) × (Int × (List Int)))) => pInt b_.2.1) (x_OF_f (kk := 1) (E1 := (oL pInt)) (E2 := pInt) (s1 := fun (_ : Unit) (_ : Unit) => a1) (v1 := v1) k_l_next (hr.mono (by decide)) g_l_next F_l_next.kp b_l_next 0 (x_var (p := pV v1) 0) (fun _ => x_int (i := 3)) (fun _ _ => rfl))) (fun _ => x_int (i := 0)))) (fun (b96 : (((Unit × Unit) × (Int × (List Int))) × Unit)) => s_T (T := (M_l_next (b96.1.2.2) (8 : Int)).bind fun r97 => (some (r97.1 : Int)).bind fun x98 => (some ([("x" : Str), ("yard" : Str), ("z" : Str), ("u" : Str), ("wide_one" : Str), ("q" : Str), ("pp" : Str), ("t" : Str)] : List Str)).bind fun x100 => grd (rg a2 = true) ((compM (rngL 0 a2.toNat) () (fun x103 s105 => if true = true then grd ((sm x103 || sm (3 : Int)) = true) (grd (0 < (8 : Int)) ((atI x100 (((x103 * (3 : Int)) + x98) % (8 : Int))).bind fun x107 => some (some x107, ()))) else some (none, ()))).bind fun r108 => some (r108.1, r97.2))) (s_let (i := 5) pInt sc_l_names.nd (x_kd (E := fun (b_ : ((Unit × Unit) × (Int × (List Int)))) => pInt b_.2.1) (x_OF_f (kk := 1) (E1 := (oL pInt)) (E2 := pInt) (s1 := fun (_ : Unit) (_ : Unit) => b96.1.2.2) (v1 := v1) k_l_next (hr.mono (by decide)) g_l_next F_l_next.kp b_l_next 0 (x_var (p := pV v1) 0) (fun _ => x_int (i := 8)) (fun _ _ => rfl))) fun (b99 : ((Unit × Unit) × (Int × (List Int)))) x98 => s_T (T := (some ([("x" : Str), ("yard" : Str), ("z" : Str), ("u" : Str), ("wide_one" : Str), ("q" : Str), ("pp" : Str), ("t" : Str)] : List Str)).bind fun x100 => grd (rg a2 = true) ((compM (rngL 0 a2.toNat) () (fun x103 s105 => if true = true then grd ((sm x103 || sm (3 : Int)) = true) (grd (0 < (8 : Int)) ((atI x100 (((x103 * (3 : Int)) + x98) % (8 : Int))).bind fun x107 => some (some x107, ()))) else some (none, ()))).bind fun r108 => some (r108.1, b99.2.2))) (s_let (i := 6) (pL pStr) sc_l_names.nd (x_kd (E := fun (b_ : (Unit × (Unit × (Unit × (Unit × (Unit × (Unit × (Unit × (Unit × Unit))))))))) => (pL pStr) ([("x" : Str), ("yard" : Str), ("z" : Str), ("u" : Str), ("wide_one" : Str), ("q" : Str), ("pp" : Str), ("t" : Str)])) (x_frz (o_kd (E := fun (b_ : (Unit × (Unit × (Unit × (Unit × (Unit × (Unit × (Unit × (Unit × Unit))))))))) => (oL pStr) ([("x" : Str), ("yard" : Str), ("z" : Str), ("u" : Str), ("wide_one" : Str), ("q" : Str), ("pp" : Str), ("t" : Str)])) (x_disp pStr (fun _ => [_, _, _, _, _, _, _, _]) (a_cons x_str (fun _ => a_cons x_str (fun _ => a_cons x_str (fun _ => a_cons x_str (fun _ => a_cons x_str (fun _ => a_cons x_str (fun _ => a_cons x_str (fun _ => a_cons x_str (fun _ => a_nil))))))))) (fun _ => rfl) (fun _ => by simp))))) fun (b101 : (Unit × (Unit × (Unit × (Unit × (Unit × (Unit × (Unit × (Unit × Unit))))))))) x100 => s_T (T := grd (rg a2 = true) ((compM (rngL 0 a2.toNat) () (fun x103 s105 => if true = true then grd ((sm x103 || sm (3 : Int)) = true) (grd (0 < (8 : Int)) ((atI x100 (((x103 * (3 : Int)) + x98) % (8 : Int))).bind fun x107 => some (some x107, ()))) else some (none, ()))).bind fun r108 => some (r108.1, b99.2.2))) (s_retO (P := (fun (r : (List Str) × (List Int)) => [⟨v1, (oL pInt) r.2, some 0⟩])) (Ro := (fun (r : (List Str) × (List Int)) => (oL pStr) r.1)) (ι := id) (rv := fun (b : (Unit × ((List Str) × Unit))) => (b.2.1, b99.2.2)) (fun _ _ _ h => h) (o_kd (o_kd (E := fun (b_ : (Unit × ((List Str) × Unit))) => (oL pStr) b_.2.1) (x_lc (own := [("_law_k", 4)]) (C := fun (b_ : Unit) (s_ : Unit) => [⟨v1, (oL pInt) b99.2.2, some 0⟩]) (s0 := fun (b_ : Unit) => ()) (s2 := fun (b_ : Unit) (x_ : Int) (s_ : Unit) (c_ : Unit) => ()) (s3 := fun (b_ : Unit) (x_ : Int) (s_ : Unit) (c_ : Unit) (d_ : ((Unit × (((Unit × Unit) × Unit) × Unit)) × Str)) => ()) (Ex := pInt) (Ee := pStr) (δ := Str) (y := fun (b_ : Unit) (x_ : Int) (s_ : Unit) (c_ : Unit) (d_ : ((Unit × (((Unit × Unit) × Unit) × Unit)) × Str)) => d_.2) (T2 := fun (b_ : Unit) (x_ : Int) (s_ : Unit) (c_ : Unit) => grd ((sm x_ || sm (3 : Int)) = true) (grd (0 < (8 : Int)) ((atI x100 (((x_ * (3 : Int)) + x98) % (8 : Int))).bind fun x107 => some (some x107, ())))) (c := fun (b_ : Unit) (x_ : Int) (s_ : Unit) (c_ : Unit) => true) (f := fun (b_ : Unit) (x_ : Int) (s_ : Unit) => if true = true then grd ((sm x_ || sm (3 : Int)) = true) (grd (0 < (8 : Int)) ((atI x100 (((x_ * (3 : Int)) + x98) % (8 : Int))).bind fun x107 => some (some x107, ()))) else some (none, ())) sc_l_names.nd (i_rng1 m_range (x_var (p := pInt a2) 1)) (blkOk_by (own := [("_law_k", 4)]) (N := ["_law_stream_here", "_law_count", "_law_letters", "_law_names_here", "_law_k", "_law_shift", "_law_plain", "_law_at", "_law_size", "_law_tail"]) (sc := defScope (top 39)) (by decide +kernel)) (fun _ _ _ _ _ => pg_name (i := 4) sc_l_names.nd rfl (by first | exact .inl rfl | exact .inr rfl)) (tw_name 4) (fun _ => rfl) (by exact fun q106 _ _ _ _ _ b102 x103 s105 => pts_T) (by exact fun q106 _ _ _ _ _ b102 x103 s105 _ => x_out (x_kd (E := fun (b_ : ((Unit × (((Unit × Unit) × Unit) × Unit)) × Str)) => pStr b_.2) (x_ixL (Ee := pStr) (x_var (p := (pL pStr) x100) 6) (fun _ => x_kd (E := fun (b_ : (((Unit × Unit) × Unit) × Unit)) => pInt (((x103 * (3 : Int)) + x98) % (8 : Int))) (x_mod (x_kd (E := fun (b_ : ((Unit × Unit) × Unit)) => pInt ((x103 * (3 : Int)) + x98)) (x_intI m_int (x_kd (E := fun (b_ : ((Unit × Unit) × Unit)) => pInt ((x103 * (3 : Int)) + x98)) (x_add (x_kd (E := fun (b_ : (Unit × Unit)) => pInt (x103 * (3 : Int))) (x_mul (x_var (p := pInt x103) 4) (fun _ => x_int (i := 3)))) (fun _ => x_var (p := pInt x98) 5))))) (fun _ => x_int (i := 8)))) (fun _ _ => rdF))))))) (fun _ => List.Sublist.refl _))))) fun (b96 : (((Unit × Unit) × (Int × (List Int))) × Unit)) => s_T (T := (some (("qwertyuiopasdfghjklzxcvbnm_zyx" : Str) : Str)).bind fun x109 => (some ([] : List Str)).bind fun x111 => grd (rg a2 = true) ((forS (rngL 0 a2.toNat) ((x111, b96.1.2.2) : (List Str) × (List Int)) fun x117 s116 => (M_l_next (s116.2) (26 : Int)).bind fun r120 => (some (r120.1 : Int)).bind fun x121 => (M_l_next (r120.2) (3 : Int)).bind fun r123 => (some (((1 : Int) + (r123.1)) : Int)).bind fun x124 => (M_l_next (r123.2) (3 : Int)).bind fun r126 => grd (x109.length ≤ sizeLine) ((some ((cutS x109 (some ((26 : Int) - (r126.1))) (some (26 : Int))) : Str)).bind fun x127 => grd (x109.length ≤ sizeLine) (grd (("7305186429" : Str).length ≤ sizeLine) ((atI ("7305186429" : Str).cps.toList x117).bind fun x129 => grd ((cutS x109 (some x121) (some (x121 + x124))).length + (⟨#[x129]⟩ : Str).length ≤ sizeLine) (grd (((cutS x109 (some x121) (some (x121 + x124))) ++ (⟨#[x129]⟩ : Str)).length + x127.length ≤ sizeLine) (grd ((s116.1).length < sizeLine) (some (((s116.1) ++ [(((cutS x109 (some x121) (some (x121 + x124))) ++ (⟨#[x129]⟩ : Str)) ++ x127)]), r126.2)))))))).bind fun s118 => some (s118.1, s118.2))) (s_let (i := 2) pStr sc_l_names.nd x_str fun (b110 : Unit) x109 => s_T (T := (some ([] : List Str)).bind fun x111 => grd (rg a2 = true) ((forS (rngL 0 a2.toNat) ((x111, b96.1.2.2) : (List Str) × (List Int)) fun x117 s116 => (M_l_next (s116.2) (26 : Int)).bind fun r120 => (some (r120.1 : Int)).bind fun x121 => (M_l_next (r120.2) (3 : Int)).bind fun r123 => (some (((1 : Int) + (r123.1)) : Int)).bind fun x124 => (M_l_next (r123.2) (3 : Int)).bind fun r126 => grd (x109.length ≤ sizeLine) ((some ((cutS x109 (some ((26 : Int) - (r126.1))) (some (26 : Int))) : Str)).bind fun x127 => grd (x109.length ≤ sizeLine) (grd (("7305186429" : Str).length ≤ sizeLine) ((atI ("7305186429" : Str).cps.toList x117).bind fun x129 => grd ((cutS x109 (some x121) (some (x121 + x124))).length + (⟨#[x129]⟩ : Str).length ≤ sizeLine) (grd (((cutS x109 (some x121) (some (x121 + x124))) ++ (⟨#[x129]⟩ : Str)).length + x127.length ≤ sizeLine) (grd ((s116.1).length < sizeLine) (some (((s116.1) ++ [(((cutS x109 (some x121) (some (x121 + x124))) ++ (⟨#[x129]⟩ : Str)) ++ x127)]), r126.2)))))))).bind fun s118 => some (s118.1, s118.2))) (s_letO (i := 3) (oL pStr) sc_l_names.nd (o_kd (E := fun (b_ : Unit) => (oL pStr) ([])) (x_nil pStr)) fun (b112 : Unit) x111 v114 => s_T (T := grd (rg a2 = true) ((forS (rngL 0 a2.toNat) ((x111, b96.1.2.2) : (List Str) × (List Int)) fun x117 s116 => (M_l_next (s116.2) (26 : Int)).bind fun r120 => (some (r120.1 : Int)).bind fun x121 => (M_l_next (r120.2) (3 : Int)).bind fun r123 => (some (((1 : Int) + (r123.1)) : Int)).bind fun x124 => (M_l_next (r123.2) (3 : Int)).bind fun r126 => grd (x109.length ≤ sizeLine) ((some ((cutS x109 (some ((26 : Int) - (r126.1))) (some (26 : Int))) : Str)).bind fun x127 => grd (x109.length ≤ sizeLine) (grd (("7305186429" : Str).length ≤ sizeLine) ((atI ("7305186429" : Str).cps.toList x117).bind fun x129 => grd ((cutS x109 (some x121) (some (x121 + x124))).length + (⟨#[x129]⟩ : Str).length ≤ sizeLine) (grd (((cutS x109 (some x121) (some (x121 + x124))) ++ (⟨#[x129]⟩ : Str)).length + x127.length ≤ sizeLine) (grd ((s116.1).length < sizeLine) (some (((s116.1) ++ [(((cutS x109 (some x121) (some (x121 + x124))) ++ (⟨#[x129]⟩ : Str)) ++ x127)]), r126.2)))))))).bind fun s118 => some (s118.1, s118.2))) (s_forS PassesOwn.never (fun (b_ : Unit) (s_ : (List Str) × (List Int)) => ([some (pV v1), some (pInt a2), some (pStr x109), some (pV v114), none, none, none, none, none, none], [⟨v114, (oL pStr) s_.1, none⟩, ⟨v1, (oL pInt) s_.2, some 0⟩])) (fun (b_ : Unit) => (x111, b96.1.2.2)) (i_rng1 m_range (x_var (p := pInt a2) 1)) (pg_name (i := 4) sc_l_names.nd rfl (by first | exact .inl rfl | exact .inr rfl)) (tg_name 4) (fun _ => ⟨rfl, rfl, rfl, rfl, trivial⟩) (fun _ => List.Sublist.refl _) (fun b115 x117 s116 => s_T (T := (M_l_next (s116.2) (26 : Int)).bind fun r120 => (some (r120.1 : Int)).bind fun x121 => (M_l_next (r120.2) (3 : Int)).bind fun r123 => (some (((1 : Int) + (r123.1)) : Int)).bind fun x124 => (M_l_next (r123.2) (3 : Int)).bind fun r126 => grd (x109.length ≤ sizeLine) ((some ((cutS x109 (some ((26 : Int) - (r126.1))) (some (26 : Int))) : Str)).bind fun x127 => grd (x109.length ≤ sizeLine) (grd (("7305186429" : Str).length ≤ sizeLine) ((atI ("7305186429" : Str).cps.toList x117).bind fun x129 => grd ((cutS x109 (some x121) (some (x121 + x124))).length + (⟨#[x129]⟩ : Str).length ≤ sizeLine) (grd (((cutS x109 (some x121) (some (x121 + x124))) ++ (⟨#[x129]⟩ : Str)).length + x127.length ≤ sizeLine) (grd ((s116.1).length < sizeLine) (some (((s116.1) ++ [(((cutS x109 (some x121) (some (x121 + x124))) ++ (⟨#[x129]⟩ : Str)) ++ x127)]), r126.2)))))))) (s_let (i := 7) pInt sc_l_names.nd (x_kd (E := fun (b_ : ((Unit × Unit) × (Int × (List Int)))) => pInt b_.2.1) (x_OF_f (kk := 1) (E1 := (oL pInt)) (E2 := pInt) (s1 := fun (_ : Unit) (_ : Unit) => s116.2) (v1 := v1) k_l_next (hr.mono (by decide)) g_l_next F_l_next.kp b_l_next 1 (x_var (p := pV v1) 0) (fun _ => x_int (i := 26)) (fun _ _ => rfl))) fun (b122 : ((Unit × Unit) × (Int × (List Int)))) x121 => s_T (T := (M_l_next (b122.2.2) (3 : Int)).bind fun r123 => (some (((1 : Int) + (r123.1)) : Int)).bind fun x124 => (M_l_next (r123.2) (3 : Int)).bind fun r126 => grd (x109.length ≤ sizeLine) ((some ((cutS x109 (some ((26 : Int) - (r126.1))) (some (26 : Int))) : Str)).bind fun x127 => grd (x109.length ≤ sizeLine) (grd (("7305186429" : Str).length ≤ sizeLine) ((atI ("7305186429" : Str).cps.toList x117).bind fun x129 => grd ((cutS x109 (some x121) (some (x121 + x124))).length + (⟨#[x129]⟩ : Str).length ≤ sizeLine) (grd (((cutS x109 (some x121) (some (x121 + x124))) ++ (⟨#[x129]⟩ : Str)).length + x127.length ≤ sizeLine) (grd ((s116.1).length < sizeLine) (some (((s116.1) ++ [(((cutS x109 (some x121) (some (x121 + x124))) ++ (⟨#[x129]⟩ : Str)) ++ x127)]), r126.2)))))))) (s_let (i := 8) pInt sc_l_names.nd (x_kd (E := fun (b_ : (Unit × ((Unit × Unit) × (Int × (List Int))))) => pInt ((1 : Int) + (b_.2.2.1))) (x_add (x_int (i := 1)) (fun _ => x_kd (E := fun (b_ : ((Unit × Unit) × (Int × (List Int)))) => pInt b_.2.1) (x_OF_f (kk := 1) (E1 := (oL pInt)) (E2 := pInt) (s1 := fun (_ : Unit) (_ : Unit) => b122.2.2) (v1 := v1) k_l_next (hr.mono (by decide)) g_l_next F_l_next.kp b_l_next 1 (x_var (p := pV v1) 0) (fun _ => x_int (i := 3)) (fun _ _ => rfl))))) fun (b125 : (Unit × ((Unit × Unit) × (Int × (List Int))))) x124 => s_T (T := (M_l_next (b125.2.2.2) (3 : Int)).bind fun r126 => grd (x109.length ≤ sizeLine) ((some ((cutS x109 (some ((26 : Int) - (r126.1))) (some (26 : Int))) : Str)).bind fun x127 => grd (x109.length ≤ sizeLine) (grd (("7305186429" : Str).length ≤ sizeLine) ((atI ("7305186429" : Str).cps.toList x117).bind fun x129 => grd ((cutS x109 (some x121) (some (x121 + x124))).length + (⟨#[x129]⟩ : Str).length ≤ sizeLine) (grd (((cutS x109 (some x121) (some (x121 + x124))) ++ (⟨#[x129]⟩ : Str)).length + x127.length ≤ sizeLine) (grd ((s116.1).length < sizeLine) (some (((s116.1) ++ [(((cutS x109 (some x121) (some (x121 + x124))) ++ (⟨#[x129]⟩ : Str)) ++ x127)]), r126.2)))))))) (s_let (i := 9) pStr sc_l_names.nd (x_kd (E := fun (b_ : (Unit × ((Unit × ((Unit × Unit) × (Int × (List Int)))) × Unit))) => pStr (cutS x109 (some ((26 : Int) - (b_.2.1.2.2.1))) (some (26 : Int)))) (x_slS (x_var (p := pStr x109) 2) (fun _ => p_some (i := fun (b_ : (Unit × ((Unit × Unit) × (Int × (List Int))))) => ((26 : Int) - (b_.2.2.1))) (x_kd (E := fun (b_ : (Unit × ((Unit × Unit) × (Int × (List Int))))) => pInt ((26 : Int) - (b_.2.2.1))) (x_sub (x_int (i := 26)) (fun _ => x_kd (E := fun (b_ : ((Unit × Unit) × (Int × (List Int)))) => pInt b_.2.1) (x_OF_f (kk := 1) (E1 := (oL pInt)) (E2 := pInt) (s1 := fun (_ : Unit) (_ : Unit) => b125.2.2.2) (v1 := v1) k_l_next (hr.mono (by decide)) g_l_next F_l_next.kp b_l_next 1 (x_var (p := pV v1) 0) (fun _ => x_int (i := 3)) (fun _ _ => rfl)))))) (fun _ _ => p_some (i := fun (b_ : Unit) => (26 : Int)) (x_int (i := 26))))) fun (b128 : (Unit × ((Unit × ((Unit × Unit) × (Int × (List Int)))) × Unit))) x127 => s_T (T := grd (x109.length ≤ sizeLine) (grd (("7305186429" : Str).length ≤ sizeLine) ((atI ("7305186429" : Str).cps.toList x117).bind fun x129 => grd ((cutS x109 (some x121) (some (x121 + x124))).length + (⟨#[x129]⟩ : Str).length ≤ sizeLine) (grd (((cutS x109 (some x121) (some (x121 + x124))) ++ (⟨#[x129]⟩ : Str)).length + x127.length ≤ sizeLine) (grd ((s116.1).length < sizeLine) (some (((s116.1) ++ [(((cutS x109 (some x121) (some (x121 + x124))) ++ (⟨#[x129]⟩ : Str)) ++ x127)]), b128.2.1.2.2.2))))))) (s_expr (x_app 0 (x_var (p := pV v114) 3) (fun _ => x_kd (E := fun (b_ : (((Unit × (Unit × (Unit × Unit))) × ((Unit × Unit) × Nat)) × Unit)) => pStr (((cutS x109 (some x121) (some (x121 + x124))) ++ (⟨#[b_.1.2.2]⟩ : Str)) ++ x127)) (x_addS (x_kd (E := fun (b_ : ((Unit × (Unit × (Unit × Unit))) × ((Unit × Unit) × Nat))) => pStr ((cutS x109 (some x121) (some (x121 + x124))) ++ (⟨#[b_.2.2]⟩ : Str))) (x_addS (x_kd (E := fun (b_ : (Unit × (Unit × (Unit × Unit)))) => pStr (cutS x109 (some x121) (some (x121 + x124)))) (x_slS (x_var (p := pStr x109) 2) (fun _ => p_some (i := fun (b_ : Unit) => x121) (x_var (p := pInt x121) 7)) (fun _ _ => p_some (i := fun (b_ : (Unit × Unit)) => (x121 + x124)) (x_kd (E := fun (b_ : (Unit × Unit)) => pInt (x121 + x124)) (x_add (x_var (p := pInt x121) 7) (fun _ => x_var (p := pInt x124) 8)))))) (fun _ => x_kd (E := fun (b_ : ((Unit × Unit) × Nat)) => pStr (⟨#[b_.2]⟩ : Str)) (x_ixC x_str (fun _ => x_var (p := pInt x117) 4))))) (fun _ => x_var (p := pStr x127) 9))) (fun _ => rfl) (fun _ _ => rfl)) fun (b130 : (Unit × (((Unit × (Unit × (Unit × Unit))) × ((Unit × Unit) × Nat)) × Unit))) => s_end (((s116.1) ++ [(((cutS x109 (some x121) (some (x121 + x124))) ++ (⟨#[b130.2.1.2.2]⟩ : Str)) ++ x127)]), b128.2.1.2.2.2) rfl ⟨rfl, rfl, rfl, rfl, trivial⟩ (List.Sublist.refl _)))))) fun b115 s118 => s_T (T := some (s118.1, s118.2)) (s_retV 0 (P := (fun (r : (List Str) × (List Int)) => [⟨v1, (oL pInt) r.2, some 0⟩])) (Ro := (fun (r : (List Str) × (List Int)) => (oL pStr) r.1)) (ι := id) (rv := fun _ => (s118.1, s118.2)) (fun _ _ _ h => h) (x_var (p := pV v114) 3) (fun _ => rfl) (fun _ => List.Sublist.refl _))))))) (by unfold M_l_names; rfl)
end
end My
end
section
set_option Elab.async false
set_option linter.all false
set_option maxRecDepth 100000
set_option maxHeartbeats 4000000
set_option pp.maxSteps 200
namespace My
open PySem PySem.Spec PyProof.Rows L2 L3
section
variable {P : Program} {w : World} {K : PySem.W.Frag} {mg : Str → Option Value} {base : Heap}
theorem sc_l_pool : FnScope ["_law_stream_here", "_law_count", "_law_pool_here", "_law_k", "_law_scale", "_law_value"] ["_law_stream_here", "_law_count"] (defScope (top 40)) := ⟨rfl, rfl, rfl, by decide +kernel, rfl, by decide +kernel, by decide +kernel⟩
theorem ok_l_pool {f : Addr} {fd : FuncData} (C : Ev P K mg) (FD : FnP K "_law_pool" (top 40) f fd)   : FnOk P w K mg base CX0 2 f fd ["_law_stream_here", "_law_count"] (Sp_OF_o (oL pInt) pInt M_l_pool (oL pInt)) := by
  have m_range := C.m_range
  obtain ⟨f_l_next, fd_l_next, F_l_next, g_l_next⟩ := C.f_l_next
  have k_l_next := ok_l_next (P := P) (w := w) (base := base) C F_l_next
  have b_l_next : Binds K fd_l_next ["_law_stream_here", "_law_size"] [] := F_l_next.bindsN fun _ _ _ _ _ _ us hl => match us, hl with | [_, _], _ => rfl
  refine fn_OF_o FD sc_l_pool rfl fun cdv A outer s H E hr v1 G1 a1 a2 => ?_
  exact s_is (s_T (T := (M_l_next a1 (9 : Int)).bind fun r131 => (some ([((r131.1) - (4 : Int))] : List Int)).bind fun x132 => grd (rg (a2 - (1 : Int)) = true) ((forS (rngL 0 (a2 - (1 : Int)).toNat) ((x132, r131.2) : (List Int) × (List Int)) fun x138 s137 => (atI (s137.1) x138).bind fun x149 => (M_l_next (s137.2) (4 : Int)).bind fun r150 => grd (dv (3 : Int) = true) (grd ((sm (2 : Int) || sm ((r150.1) / (3 : Int))) = true) (grd ((s137.1).length < sizeLine) (some (((s137.1) ++ [((x149 + (1 : Int)) + ((2 : Int) * ((r150.1) / (3 : Int))))]), r150.2))))).bind fun s139 => (M_l_next (s139.2) (8 : Int)).bind fun r140 => (atI ([(1 : Int), (1 : Int), (1 : Int), (1 : Int), (1 : Int), (1 : Int), (7 : Int), ((10 : Int) ^ (9 : Int).toNat)]) (r140.1)).bind fun x141 => (some (x141 : Int)).bind fun x142 => (compM (s139.1) () (fun x145 s146 => if true = true then grd ((sm x145 || sm x142) = true) (some (some (x145 * x142), ())) else some (none, ()))).bind fun r148 => some (r148.1, r140.2))) (s_letO (i := 2) (oL pInt) sc_l_pool.nd (o_kd (E := fun (b_ : ((((Unit × Unit) × (Int × (List Int))) × Unit) × Unit)) => (oL pInt) ([((b_.1.1.2.1) - (4 : Int))])) (x_disp pInt (fun _ => [_]) (a_cons (x_kd (E := fun (b_ : (((Unit × Unit) × (Int × (List Int))) × Unit)) => pInt ((b_.1.2.1) - (4 : Int))) (x_sub (x_kd (E := fun (b_ : ((Unit × Unit) × (Int × (List Int)))) => pInt b_.2.1) (x_OF_f (kk := 1) (E1 := (oL pInt)) (E2 := pInt) (s1 := fun (_ : Unit) (_ : Unit) => a1) (v1 := v1) k_l_next (hr.mono (by decide)) g_l_next F_l_next.kp b_l_next 0 (x_var (p := pV v1) 0) (fun _ => x_int (i := 9)) (fun _ _ => rfl))) (fun _ => x_int (i := 4)))) (fun _ => a_nil)) (fun _ => rfl) (fun _ => by simp))) fun (b133 : ((((Unit × Unit) × (Int × (List Int))) × Unit) × Unit)) x132 v135 => s_T (T := grd (rg (a2 - (1 : Int)) = true) ((forS (rngL 0 (a2 - (1 : Int)).toNat) ((x132, b133.1.1.2.2) : (List Int) × (List Int)) fun x138 s137 => (atI (s137.1) x138).bind fun x149 => (M_l_next (s137.2) (4 : Int)).bind fun r150 => grd (dv (3 : Int) = true) (grd ((sm (2 : Int) || sm ((r150.1) / (3 : Int))) = true) (grd ((s137.1).length < sizeLine) (some (((s137.1) ++ [((x149 + (1 : Int)) + ((2 : Int) * ((r150.1) / (3 : Int))))]), r150.2))))).bind fun s139 => (M_l_next (s139.2) (8 : Int)).bind fun r140 => (atI ([(1 : Int), (1 : Int), (1 : Int), (1 : Int), (1 : Int), (1 : Int), (7 : Int), ((10 : Int) ^ (9 : Int).toNat)]) (r140.1)).bind fun x141 => (some (x141 : Int)).bind fun x142 => (compM (s139.1) () (fun x145 s146 => if true = true then grd ((sm x145 || sm x142) = true) (some (some (x145 * x142), ())) else some (none, ()))).bind fun r148 => some (r148.1, r140.2))) (s_forS PassesOwn.never (fun (b_ : (Unit × Unit)) (s_ : (List Int) × (List Int)) => ([some (pV v1), some (pInt a2), some (pV v135), none, none, none], [⟨v135, (oL pInt) s_.1, none⟩, ⟨v1, (oL pInt) s_.2, some 0⟩])) (fun (b_ : (Unit × Unit)) => (x132, b133.1.1.2.2)) (i_rng1 m_range (x_kd (E := fun (b_ : (Unit × Unit)) => pInt (a2 - (1 : Int))) (x_sub (x_var (p := pInt a2) 1) (fun _ => x_int (i := 1))))) (pg_name (i := 3) sc_l_pool.nd rfl (by first | exact .inl rfl | exact .inr rfl)) (tg_name 3) (fun _ => ⟨rfl, rfl, rfl, trivial⟩) (fun _ => List.Sublist.refl _) (fun b136 x138 s137 => s_T (T := (atI (s137.1) x138).bind fun x149 => (M_l_next (s137.2) (4 : Int)).bind fun r150 => grd (dv (3 : Int) = true) (grd ((sm (2 : Int) || sm ((r150.1) / (3 : Int))) = true) (grd ((s137.1).length < sizeLine) (some (((s137.1) ++ [((x149 + (1 : Int)) + ((2 : Int) * ((r150.1) / (3 : Int))))]), r150.2))))) (s_expr (x_app 0 (x_var (p := pV v135) 2) (fun _ => x_kd (E := fun (b_ : ((((Unit × Unit) × Int) × Unit) × (Unit × (((Unit × Unit) × (Int × (List Int))) × Unit)))) => pInt ((b_.1.1.2 + (1 : Int)) + ((2 : Int) * ((b_.2.2.1.2.1) / (3 : Int))))) (x_add (x_kd (E := fun (b_ : (((Unit × Unit) × Int) × Unit)) => pInt (b_.1.2 + (1 : Int))) (x_add (x_kd (E := fun (b_ : ((Unit × Unit) × Int)) => pInt b_.2) (x_ixL (Ee := pInt) (x_var (p := pV v135) 2) (fun _ => x_var (p := pInt x138) 3) (fun _ _ => rdO 0))) (fun _ => x_int (i := 1)))) (fun _ => x_kd (E := fun (b_ : (Unit × (((Unit × Unit) × (Int × (List Int))) × Unit))) => pInt ((2 : Int) * ((b_.2.1.2.1) / (3 : Int)))) (x_mul (x_int (i := 2)) (fun _ => x_kd (E := fun (b_ : (((Unit × Unit) × (Int × (List Int))) × Unit)) => pInt ((b_.1.2.1) / (3 : Int))) (x_fdiv (x_kd (E := fun (b_ : ((Unit × Unit) × (Int × (List Int)))) => pInt b_.2.1) (x_OF_f (kk := 1) (E1 := (oL pInt)) (E2 := pInt) (s1 := fun (_ : Unit) (_ : Unit) => s137.2) (v1 := v1) k_l_next (hr.mono (by decide)) g_l_next F_l_next.kp b_l_next 1 (x_var (p := pV v1) 0) (fun _ => x_int (i := 4)) (fun _ _ => rfl))) (fun _ => x_int (i := 3)))))))) (fun _ => rfl) (fun _ _ => rfl)) fun (b151 : (Unit × ((((Unit × Unit) × Int) × Unit) × (Unit × (((Unit × Unit) × (Int × (List Int))) × Unit))))) => s_end (((s137.1) ++ [((b151.2.1.1.2 + (1 : Int)) + ((2 : Int) * ((b151.2.2.2.1.2.1) / (3 : Int))))]), b151.2.2.2.1.2.2) rfl ⟨rfl, rfl, rfl, trivial⟩ (List.Sublist.refl _))) fun b136 s139 => s_frz (i := 2) (c := ⟨v135, (oL pInt) s139.1, none⟩) 0 (s_T (T := (M_l_next (s139.2) (8 : Int)).bind fun r140 => (atI ([(1 : Int), (1 : Int), (1 : Int), (1 : Int), (1 : Int), (1 : Int), (7 : Int), ((10 : Int) ^ (9 : Int).toNat)]) (r140.1)).bind fun x141 => (some (x141 : Int)).bind fun x142 => (compM (s139.1) () (fun x145 s146 => if true = true then grd ((sm x145 || sm x142) = true) (some (some (x145 * x142), ())) else some (none, ()))).bind fun r148 => some (r148.1, r140.2)) (s_let (i := 4) pInt sc_l_pool.nd (x_kd (E := fun (b_ : (((Unit × (Unit × (Unit × (Unit × (Unit × (Unit × (Unit × ((Unit × Unit) × Unit)))))))) × ((Unit × Unit) × (Int × (List Int)))) × Int)) => pInt b_.2) (x_ixL (Ee := pInt) (x_kd (E := fun (b_ : (Unit × (Unit × (Unit × (Unit × (Unit × (Unit × (Unit × ((Unit × Unit) × Unit))))))))) => (pL pInt) ([(1 : Int), (1 : Int), (1 : Int), (1 : Int), (1 : Int), (1 : Int), (7 : Int), ((10 : Int) ^ (9 : Int).toNat)])) (x_frz (o_kd (E := fun (b_ : (Unit × (Unit × (Unit × (Unit × (Unit × (Unit × (Unit × ((Unit × Unit) × Unit))))))))) => (oL pInt) ([(1 : Int), (1 : Int), (1 : Int), (1 : Int), (1 : Int), (1 : Int), (7 : Int), ((10 : Int) ^ (9 : Int).toNat)])) (x_disp pInt (fun _ => [_, _, _, _, _, _, _, _]) (a_cons (x_int (i := 1)) (fun _ => a_cons (x_int (i := 1)) (fun _ => a_cons (x_int (i := 1)) (fun _ => a_cons (x_int (i := 1)) (fun _ => a_cons (x_int (i := 1)) (fun _ => a_cons (x_int (i := 1)) (fun _ => a_cons (x_int (i := 7)) (fun _ => a_cons (x_kd (E := fun (b_ : (Unit × Unit)) => pInt ((10 : Int) ^ (9 : Int).toNat)) (x_pow (x_int (i := 10)) (fun _ => x_int (i := 9)) (fun _ _ => by decide))) (fun _ => a_nil))))))))) (fun _ => rfl) (fun _ => by simp))))) (fun _ => x_kd (E := fun (b_ : ((Unit × Unit) × (Int × (List Int)))) => pInt b_.2.1) (x_OF_f (kk := 1) (E1 := (oL pInt)) (E2 := pInt) (s1 := fun (_ : Unit) (_ : Unit) => s139.2) (v1 := v1) k_l_next (hr.mono (by decide)) g_l_next F_l_next.kp b_l_next 0 (x_var (p := pV v1) 0) (fun _ => x_int (i := 8)) (fun _ _ => rfl))) (fun _ _ => rdF))) fun (b143 : (((Unit × (Unit × (Unit × (Unit × (Unit × (Unit × (Unit × ((Unit × Unit) × Unit)))))))) × ((Unit × Unit) × (Int × (List Int)))) × Int)) x142 => s_T (T := (compM (s139.1) () (fun x145 s146 => if true = true then grd ((sm x145 || sm x142) = true) (some (some (x145 * x142), ())) else some (none, ()))).bind fun r148 => some (r148.1, b143.1.2.2.2)) (s_retO (P := (fun (r : (List Int) × (List Int)) => [⟨v1, (oL pInt) r.2, some 0⟩])) (Ro := (fun (r : (List Int) × (List Int)) => (oL pInt) r.1)) (ι := id) (rv := fun (b : (Unit × ((List Int) × Unit))) => (b.2.1, b143.1.2.2.2)) (fun _ _ _ h => h) (o_kd (o_kd (E := fun (b_ : (Unit × ((List Int) × Unit))) => (oL pInt) b_.2.1) (x_lc (own := [("_law_value", 5)]) (C := fun (b_ : Unit) (s_ : Unit) => [⟨v1, (oL pInt) b143.1.2.2.2, some 0⟩]) (s0 := fun (b_ : Unit) => ()) (s2 := fun (b_ : Unit) (x_ : Int) (s_ : Unit) (c_ : Unit) => ()) (s3 := fun (b_ : Unit) (x_ : Int) (s_ : Unit) (c_ : Unit) (d_ : (Unit × Unit)) => ()) (Ex := pInt) (Ee := pInt) (δ := Int) (y := fun (b_ : Unit) (x_ : Int) (s_ : Unit) (c_ : Unit) (d_ : (Unit × Unit)) => (x_ * x142)) (T2 := fun (b_ : Unit) (x_ : Int) (s_ : Unit) (c_ : Unit) => grd ((sm x_ || sm x142) = true) (some (some (x_ * x142), ()))) (c := fun (b_ : Unit) (x_ : Int) (s_ : Unit) (c_ : Unit) => true) (f := fun (b_ : Unit) (x_ : Int) (s_ : Unit) => if true = true then grd ((sm x_ || sm x142) = true) (some (some (x_ * x142), ())) else some (none, ())) sc_l_pool.nd (i_list (x_var (p := (pL pInt) s139.1) 2)) (blkOk_by (own := [("_law_value", 5)]) (N := ["_law_stream_here", "_law_count", "_law_pool_here", "_law_k", "_law_scale", "_law_value"]) (sc := defScope (top 40)) (by decide +kernel)) (fun _ _ _ _ _ => pg_name (i := 5) sc_l_pool.nd rfl (by first | exact .inl rfl | exact .inr rfl)) (tw_name 5) (fun _ => rfl) (by exact fun q147 _ _ _ _ _ b144 x145 s146 => pts_T) (by exact fun q147 _ _ _ _ _ b144 x145 s146 _ => x_out (x_kd (E := fun (b_ : (Unit × Unit)) => pInt (x145 * x142)) (x_mul (x_var (p := pInt x145) 5) (fun _ => x_var (p := pInt x142) 4))))))) (fun _ => List.Sublist.refl _))))))) (by unfold M_l_pool; rfl)
end
end My
end
section
set_option Elab.async false
set_option linter.all false
set_option maxRecDepth 100000
set_option maxHeartbeats 4000000
set_option pp.maxSteps 200
namespace My
open PySem PySem.Spec PyProof.Rows L2 L3
section
variable {P : Program} {w : World} {K : PySem.W.Frag} {mg : Str → Option Value} {base : Heap}
theorem sc_l_is_side : FnScope ["_law_actual", "_law_k", "_law_value"] ["_law_actual"] (defScope (top 41)) := ⟨rfl, rfl, rfl, by decide +kernel, rfl, by decide +kernel, by decide +kernel⟩
theorem ok_l_is_side {f : Addr} {fd : FuncData} (C : Ev P K mg) (FD : FnP K "_law_is_side" (top 41) f fd)   : FnOk P w K mg base CX0 2 f fd ["_law_actual"] (Sp_F_f (pL pInt) M_l_is_side pBl) := by
  have m_all := C.m_all
  have m_isinstance := C.m_isinstance
  have m_len := C.m_len
  have m_list := C.m_list
  have m_range := C.m_range
  obtain ⟨f_l_is_integer, fd_l_is_integer, F_l_is_integer, g_l_is_integer⟩ := C.f_l_is_integer
  have k_l_is_integer := ok_l_is_integer (P := P) (w := w) (base := base) C F_l_is_integer
  have b_l_is_integer : Binds K fd_l_is_integer ["_law_actual"] [] := F_l_is_integer.bindsN fun _ _ _ _ _ _ us hl => match us, hl with | [_], _ => rfl
  refine fn_F_f FD sc_l_is_side rfl fun cdv A outer s H E hr  a1 => ?_
  exact s_is (s_T (T := ((if (!true) = true then some (true, ()) else (compM a1 () (fun x160 s162 => if true = true then (M_l_is_integer x160).bind fun r164 => some (some r164, ()) else some (none, ()))).bind fun r165 => some ((!((r165.1).all id)), ()))).bind fun c166 => if c166.1 = true then some false else grd (rg ((a1.length : Int) - (1 : Int)) = true) ((compM (rngL 0 ((a1.length : Int) - (1 : Int)).toNat) () (fun x169 s172 => if true = true then (atI a1 x169).bind fun x174 => (atI a1 (x169 + (1 : Int))).bind fun x175 => some (some (decide (x174 < x175)), ()) else some (none, ()))).bind fun r176 => some ((r176.1).all id))) (s_ifT (ins_F _) (t_kd (c := fun (b_ : (Unit × (Bool × Unit))) => b_.2.1) (PW.pt (w_orM (ΔS := fun (b_ : Unit) (s_ : Unit) => []) (s1 := fun (b_ : Unit) => ()) (s2 := fun (b_ : Unit) (c_ : (Unit × ((List Bool) × Unit))) => ()) (t_kd (c := fun (b_ : Unit) => (!true)) (t_not (t_kd (c := fun (b_ : Unit) => true) (t_val (x_kd (E := fun (b_ : Unit) => pBl true) (x_isi (cn := "list") (fun _ => "list") (fun _ => true) m_isinstance m_list (x_var (p := (pL pInt) a1) 0) (fun _ => tyL) (fun _ => by decide +kernel) (by decide +kernel))))))) (fun _ => w_or1 (t_kd (c := fun (b_ : (Unit × ((List Bool) × Unit))) => (!((b_.2.1).all id))) (t_not (t_kd (c := fun (b_ : (Unit × ((List Bool) × Unit))) => ((b_.2.1).all id)) (t_val (x_kd (E := fun (b_ : (Unit × ((List Bool) × Unit))) => pBl ((b_.2.1).all id)) (x_all m_all (x_kd (E := fun (b_ : (Unit × ((List Bool) × Unit))) => (pL pBl) b_.2.1) (x_frz (o_kd (E := fun (b_ : (Unit × ((List Bool) × Unit))) => (oL pBl) b_.2.1) (x_lc (own := [("_law_value", 2)]) (C := fun (b_ : Unit) (s_ : Unit) => []) (s0 := fun (b_ : Unit) => ()) (s2 := fun (b_ : Unit) (x_ : Int) (s_ : Unit) (c_ : Unit) => ()) (s3 := fun (b_ : Unit) (x_ : Int) (s_ : Unit) (c_ : Unit) (d_ : (Unit × Bool)) => ()) (Ex := pInt) (Ee := pBl) (δ := Bool) (y := fun (b_ : Unit) (x_ : Int) (s_ : Unit) (c_ : Unit) (d_ : (Unit × Bool)) => d_.2) (T2 := fun (b_ : Unit) (x_ : Int) (s_ : Unit) (c_ : Unit) => (M_l_is_integer x_).bind fun r164 => some (some r164, ())) (c := fun (b_ : Unit) (x_ : Int) (s_ : Unit) (c_ : Unit) => true) (f := fun (b_ : Unit) (x_ : Int) (s_ : Unit) => if true = true then (M_l_is_integer x_).bind fun r164 => some (some r164, ()) else some (none, ())) sc_l_is_side.nd (i_list (x_var (p := (pL pInt) a1) 0)) (blkOk_by (own := [("_law_value", 2)]) (N := ["_law_actual", "_law_k", "_law_value"]) (sc := defScope (top 41)) (by decide +kernel)) (fun _ _ _ _ _ => pg_name (i := 2) sc_l_is_side.nd rfl (by first | exact .inl rfl | exact .inr rfl)) (tw_name 2) (fun _ => rfl) (by exact fun q163 _ _ _ _ _ b159 x160 s162 => pts_T) (by exact fun q163 _ _ _ _ _ b159 x160 s162 _ => x_out (x_kd (E := fun (b_ : (Unit × Bool)) => pBl b_.2) (x_F_f (kk := 1) (E1 := pInt) k_l_is_integer (hr.mono (by decide)) g_l_is_integer F_l_is_integer.kp b_l_is_integer (x_var (p := pInt x160) 2)))))))) (fun _ => rdF)))))))) (fun _ => rfl) (fun _ _ => rfl)))) (fun (b167 : (Unit × (Bool × Unit))) => s_T (T := some false) (s_ret (P := (fun _ => [])) (Rp := pBl) (ι := id) (rv := fun (b : Unit) => false) (fun _ _ _ h => h) x_bl (fun _ => List.Sublist.refl _))) fun (b167 : (Unit × (Bool × Unit))) => s_T (T := grd (rg ((a1.length : Int) - (1 : Int)) = true) ((compM (rngL 0 ((a1.length : Int) - (1 : Int)).toNat) () (fun x169 s172 => if true = true then (atI a1 x169).bind fun x174 => (atI a1 (x169 + (1 : Int))).bind fun x175 => some (some (decide (x174 < x175)), ()) else some (none, ()))).bind fun r176 => some ((r176.1).all id))) (s_ret (P := (fun _ => [])) (Rp := pBl) (ι := id) (rv := fun (b : ((Unit × Unit) × ((List Bool) × Unit))) => ((b.2.1).all id)) (fun _ _ _ h => h) (x_kd (x_kd (E := fun (b_ : ((Unit × Unit) × ((List Bool) × Unit))) => pBl ((b_.2.1).all id)) (x_all m_all (x_kd (E := fun (b_ : ((Unit × Unit) × ((List Bool) × Unit))) => (pL pBl) b_.2.1) (x_frz (o_kd (E := fun (b_ : ((Unit × Unit) × ((List Bool) × Unit))) => (oL pBl) b_.2.1) (x_lc (own := [("_law_k", 1)]) (C := fun (b_ : (Unit × Unit)) (s_ : Unit) => []) (s0 := fun (b_ : (Unit × Unit)) => ()) (s2 := fun (b_ : (Unit × Unit)) (x_ : Int) (s_ : Unit) (c_ : Unit) => ()) (s3 := fun (b_ : (Unit × Unit)) (x_ : Int) (s_ : Unit) (c_ : Unit) (d_ : (((Unit × Unit) × Int) × ((Unit × (Unit × Unit)) × Int))) => ()) (Ex := pInt) (Ee := pBl) (δ := Bool) (y := fun (b_ : (Unit × Unit)) (x_ : Int) (s_ : Unit) (c_ : Unit) (d_ : (((Unit × Unit) × Int) × ((Unit × (Unit × Unit)) × Int))) => (decide (d_.1.2 < d_.2.2))) (T2 := fun (b_ : (Unit × Unit)) (x_ : Int) (s_ : Unit) (c_ : Unit) => (atI a1 x_).bind fun x174 => (atI a1 (x_ + (1 : Int))).bind fun x175 => some (some (decide (x174 < x175)), ())) (c := fun (b_ : (Unit × Unit)) (x_ : Int) (s_ : Unit) (c_ : Unit) => true) (f := fun (b_ : (Unit × Unit)) (x_ : Int) (s_ : Unit) => if true = true then (atI a1 x_).bind fun x174 => (atI a1 (x_ + (1 : Int))).bind fun x175 => some (some (decide (x174 < x175)), ()) else some (none, ())) sc_l_is_side.nd (i_rng1 m_range (x_kd (E := fun (b_ : (Unit × Unit)) => pInt ((a1.length : Int) - (1 : Int))) (x_sub (x_kd (E := fun (b_ : Unit) => pInt (a1.length : Int)) (x_lenL (Ee := pInt) m_len (x_var (p := (pL pInt) a1) 0) (fun _ => rdF))) (fun _ => x_int (i := 1))))) (blkOk_by (own := [("_law_k", 1)]) (N := ["_law_actual", "_law_k", "_law_value"]) (sc := defScope (top 41)) (by decide +kernel)) (fun _ _ _ _ _ => pg_name (i := 1) sc_l_is_side.nd rfl (by first | exact .inl rfl | exact .inr rfl)) (tw_name 1) (fun _ => rfl) (by exact fun q173 _ _ _ _ _ b168 x169 s172 => pts_T) (by exact fun q173 _ _ _ _ _ b168 x169 s172 _ => x_out (x_kd (E := fun (b_ : (((Unit × Unit) × Int) × ((Unit × (Unit × Unit)) × Int))) => pBl (decide (b_.1.2 < b_.2.2))) (x_lt (x_kd (E := fun (b_ : ((Unit × Unit) × Int)) => pInt b_.2) (x_ixL (Ee := pInt) (x_var (p := (pL pInt) a1) 0) (fun _ => x_var (p := pInt x169) 1) (fun _ _ => rdF))) (fun _ => x_kd (E := fun (b_ : ((Unit × (Unit × Unit)) × Int)) => pInt b_.2) (x_ixL (Ee := pInt) (x_var (p := (pL pInt) a1) 0) (fun _ => x_kd (E := fun (b_ : (Unit × Unit)) => pInt (x169 + (1 : Int))) (x_add (x_var (p := pInt x169) 1) (fun _ => x_int (i := 1)))) (fun _ _ => rdF)))))))))) (fun _ => rdF)))) (fun _ => List.Sublist.refl _)))) (by unfold M_l_is_side; rfl)
end
end My
end
section
set_option Elab.async false
set_option linter.all false
set_option maxRecDepth 100000
set_option maxHeartbeats 4000000
set_option pp.maxSteps 200
namespace My
open PySem PySem.Spec PyProof.Rows L2 L3
section
variable {P : Program} {w : World} {K : PySem.W.Frag} {mg : Str → Option Value} {base : Heap}
theorem sc_l_same_sides : FnScope ["_law_actual", "_law_expected", "_law_found", "_law_name"] ["_law_actual", "_law_expected"] (defScope (top 42)) := ⟨rfl, rfl, rfl, by decide +kernel, rfl, by decide +kernel, by decide +kernel⟩
theorem ok_l_same_sides {f : Addr} {fd : FuncData} (C : Ev P K mg) (FD : FnP K "_law_same_sides" (top 42) f fd)   : FnOk P w K mg base CX0 3 f fd ["_law_actual", "_law_expected"] (Sp_FF_f (pM (κ := Str) (pL pInt)) (pM (κ := Str) (pL pInt)) M_l_same_sides pBl) := by
  have m_all := C.m_all
  have m_dict := C.m_dict
  have m_isinstance := C.m_isinstance
  have m_len := C.m_len
  obtain ⟨f_l_is_side, fd_l_is_side, F_l_is_side, g_l_is_side⟩ := C.f_l_is_side
  have k_l_is_side := ok_l_is_side (P := P) (w := w) (base := base) C F_l_is_side
  have b_l_is_side : Binds K fd_l_is_side ["_law_actual"] [] := F_l_is_side.bindsN fun _ _ _ _ _ _ us hl => match us, hl with | [_], _ => rfl
  refine fn_FF_f FD sc_l_same_sides rfl fun cdv A outer s H E hr  a1 a2 => ?_
  exact s_is (s_T (T := if ((!true) || (!decide ((a1.length : Int) = (a2.length : Int)))) = true then some false else (compM (a2.map Prod.fst) () (fun x179 s185 => ((if (dhas a1 x179) = true then (dget a1 x179).bind fun x189 => (M_l_is_side x189).bind fun r190 => some (r190, ()) else some (false, ()))).bind fun c191 => if c191.1 = true then some (some x179, ()) else some (none, ()))).bind fun r192 => (some (r192.1 : List Str)).bind fun x193 => ((if (decide ((x193.length : Int) = (a2.length : Int))) = true then (compM x193 () (fun x207 s210 => if true = true then (dget a1 x207).bind fun x212 => (dget a2 x207).bind fun x213 => some (some (decide (x212 = x213)), ()) else some (none, ()))).bind fun r214 => some (((r214.1).all id), ()) else some (false, ()))).bind fun c215 => some (c215.1)) (s_ifT (ins_F _) (t_kd (c := fun (b_ : Unit) => ((!true) || (!decide ((a1.length : Int) = (a2.length : Int))))) (PW.pt (w_or (t_totV (!true) () (fun _ => rfl) (by exact (t_kd (c := fun (b_ : Unit) => (!true)) (t_not (t_kd (c := fun (b_ : Unit) => true) (t_val (x_kd (E := fun (b_ : Unit) => pBl true) (x_isi (cn := "dict") (fun _ => "dict") (fun _ => true) m_isinstance m_dict (y_var (p := (pM (κ := Str) (pL pInt)) a1) 0) (fun _ => tyM) (fun _ => by decide +kernel) (by decide +kernel))))))))) (w_or1 (t_totV (!decide ((a1.length : Int) = (a2.length : Int))) ((), ()) (fun _ => rfl) (by exact (t_kd (c := fun (b_ : (Unit × Unit)) => (!decide ((a1.length : Int) = (a2.length : Int)))) (t_neI (x_kd (E := fun (b_ : Unit) => pInt (a1.length : Int)) (x_lenM (κ := Str) (Ee := (pL pInt)) m_len (y_var (p := (pM (κ := Str) (pL pInt)) a1) 0) (fun _ => rdMF))) (fun _ => x_kd (E := fun (b_ : Unit) => pInt (a2.length : Int)) (x_lenM (κ := Str) (Ee := (pL pInt)) m_len (y_var (p := (pM (κ := Str) (pL pInt)) a2) 1) (fun _ => rdMF))))))))))) (fun (b177 : Unit) => s_T (T := some false) (s_ret (P := (fun _ => [])) (Rp := pBl) (ι := id) (rv := fun (b : Unit) => false) (fun _ _ _ h => h) x_bl (fun _ => List.Sublist.refl _))) fun (b177 : Unit) => s_T (T := (compM (a2.map Prod.fst) () (fun x179 s185 => ((if (dhas a1 x179) = true then (dget a1 x179).bind fun x189 => (M_l_is_side x189).bind fun r190 => some (r190, ()) else some (false, ()))).bind fun c191 => if c191.1 = true then some (some x179, ()) else some (none, ()))).bind fun r192 => (some (r192.1 : List Str)).bind fun x193 => ((if (decide ((x193.length : Int) = (a2.length : Int))) = true then (compM x193 () (fun x207 s210 => if true = true then (dget a1 x207).bind fun x212 => (dget a2 x207).bind fun x213 => some (some (decide (x212 = x213)), ()) else some (none, ()))).bind fun r214 => some (((r214.1).all id), ()) else some (false, ()))).bind fun c215 => some (c215.1)) (s_letOA (i := 2) (oL pStr) (a_lc (i := 2) (own := [("_law_name", 3)]) (C := fun (b_ : Unit) (s_ : Unit) => []) (s0 := fun (b_ : Unit) => ()) (s2 := fun (b_ : Unit) (x_ : Str) (s_ : Unit) (c_ : ((Unit × Unit) × (Bool × Unit))) => ()) (s3 := fun (b_ : Unit) (x_ : Str) (s_ : Unit) (c_ : ((Unit × Unit) × (Bool × Unit))) (d_ : Unit) => ()) (Ex := pStr) (Ee := pStr) (δ := Str) (y := fun (b_ : Unit) (x_ : Str) (s_ : Unit) (c_ : ((Unit × Unit) × (Bool × Unit))) (d_ : Unit) => x_) (T2 := fun (b_ : Unit) (x_ : Str) (s_ : Unit) (c_ : ((Unit × Unit) × (Bool × Unit))) => some (some x_, ())) (c := fun (b_ : Unit) (x_ : Str) (s_ : Unit) (c_ : ((Unit × Unit) × (Bool × Unit))) => c_.2.1) (f := fun (b_ : Unit) (x_ : Str) (s_ : Unit) => ((if (dhas a1 x_) = true then (dget a1 x_).bind fun x189 => (M_l_is_side x189).bind fun r190 => some (r190, ()) else some (false, ()))).bind fun c191 => if c191.1 = true then some (some x_, ()) else some (none, ())) sc_l_same_sides.nd (i_mkeys (κ := Str) (x_var (p := (pM (κ := Str) (pL pInt)) a2) 1)) (blkOk_by (own := [("_law_name", 3)]) (N := ["_law_actual", "_law_expected", "_law_found", "_law_name"]) (sc := defScope (top 42)) (by decide +kernel)) (fun _ _ _ _ _ => pg_name (i := 3) sc_l_same_sides.nd rfl (by first | exact .inl rfl | exact .inr rfl)) (tw_name 3) (fun _ => rfl) (by exact fun q186 _ _ _ _ _ b178 x179 s185 => t_out (pts_one (t_kd (c := fun (b_ : ((Unit × Unit) × (Bool × Unit))) => b_.2.1) (PW.pt (w_andM (ΔS := fun (b_ : (Unit × Unit)) (s_ : Unit) => [] ++ [q186]) (s1 := fun (b_ : (Unit × Unit)) => ()) (s2 := fun (b_ : (Unit × Unit)) (c_ : (((Unit × Unit) × (List Int)) × Bool)) => ()) (t_kd (c := fun (b_ : (Unit × Unit)) => (dhas a1 x179)) (t_din (κ := Str) (Ee := (pL pInt)) hr.units (x_var (p := pStr x179) 3) (fun _ => x_var (p := (pM (κ := Str) (pL pInt)) a1) 0) (fun _ _ => rdMF))) (fun _ => w_and1 (t_kd (c := fun (b_ : (((Unit × Unit) × (List Int)) × Bool)) => b_.2) (t_val (x_kd (E := fun (b_ : (((Unit × Unit) × (List Int)) × Bool)) => pBl b_.2) (x_F_f (kk := 2) (E1 := (pL pInt)) k_l_is_side (hr.mono (by decide)) g_l_is_side F_l_is_side.kp b_l_is_side (x_kd (E := fun (b_ : ((Unit × Unit) × (List Int))) => (pL pInt) b_.2) (x_dget (κ := Str) (Ee := (pL pInt)) hr.units (x_var (p := (pM (κ := Str) (pL pInt)) a1) 0) (fun _ => x_var (p := pStr x179) 3) (fun _ _ => rdMF)))))))) (fun _ => rfl) (fun _ _ => rfl)))))) (by exact fun q186 _ _ _ _ _ b178 x179 s185 _ => x_out (x_var (p := pStr x179) 3)) (sw_true rfl rfl rfl (by decide +kernel))) fun (b194 : (Unit × ((List Str) × Unit))) x193 v196 => s_frz (i := 2) (c := ⟨v196, (oL pStr) x193, none⟩) 0 (s_T (T := ((if (decide ((x193.length : Int) = (a2.length : Int))) = true then (compM x193 () (fun x207 s210 => if true = true then (dget a1 x207).bind fun x212 => (dget a2 x207).bind fun x213 => some (some (decide (x212 = x213)), ()) else some (none, ()))).bind fun r214 => some (((r214.1).all id), ()) else some (false, ()))).bind fun c215 => some (c215.1)) (s_ret (P := (fun _ => [])) (Rp := pBl) (ι := id) (rv := fun (b : ((Unit × Unit) × (Bool × Unit))) => b.2.1) (fun _ _ _ h => h) (x_kd (x_kd (E := fun (b_ : ((Unit × Unit) × (Bool × Unit))) => pBl b_.2.1) (v_andM (ΔS := fun (b_ : (Unit × Unit)) (s_ : Unit) => []) (s1 := fun (b_ : (Unit × Unit)) => ()) (s2 := fun (b_ : (Unit × Unit)) (c_ : (Unit × ((List Bool) × Unit))) => ()) (x_kd (E := fun (b_ : (Unit × Unit)) => pBl (decide ((x193.length : Int) = (a2.length : Int)))) (x_eqI (x_kd (E := fun (b_ : Unit) => pInt (x193.length : Int)) (x_lenL (Ee := pStr) m_len (x_var (p := (pL pStr) x193) 2) (fun _ => rdF))) (fun _ => x_kd (E := fun (b_ : Unit) => pInt (a2.length : Int)) (x_lenM (κ := Str) (Ee := (pL pInt)) m_len (x_var (p := (pM (κ := Str) (pL pInt)) a2) 1) (fun _ => rdMF))))) (fun _ => v_one (x_kd (E := fun (b_ : (Unit × ((List Bool) × Unit))) => pBl ((b_.2.1).all id)) (x_all m_all (x_kd (E := fun (b_ : (Unit × ((List Bool) × Unit))) => (pL pBl) b_.2.1) (x_frz (o_kd (E := fun (b_ : (Unit × ((List Bool) × Unit))) => (oL pBl) b_.2.1) (x_lc (own := [("_law_name", 3)]) (C := fun (b_ : Unit) (s_ : Unit) => []) (s0 := fun (b_ : Unit) => ()) (s2 := fun (b_ : Unit) (x_ : Str) (s_ : Unit) (c_ : Unit) => ()) (s3 := fun (b_ : Unit) (x_ : Str) (s_ : Unit) (c_ : Unit) (d_ : (((Unit × Unit) × (List Int)) × ((Unit × Unit) × (List Int)))) => ()) (Ex := pStr) (Ee := pBl) (δ := Bool) (y := fun (b_ : Unit) (x_ : Str) (s_ : Unit) (c_ : Unit) (d_ : (((Unit × Unit) × (List Int)) × ((Unit × Unit) × (List Int)))) => (decide (d_.1.2 = d_.2.2))) (T2 := fun (b_ : Unit) (x_ : Str) (s_ : Unit) (c_ : Unit) => (dget a1 x_).bind fun x212 => (dget a2 x_).bind fun x213 => some (some (decide (x212 = x213)), ())) (c := fun (b_ : Unit) (x_ : Str) (s_ : Unit) (c_ : Unit) => true) (f := fun (b_ : Unit) (x_ : Str) (s_ : Unit) => if true = true then (dget a1 x_).bind fun x212 => (dget a2 x_).bind fun x213 => some (some (decide (x212 = x213)), ()) else some (none, ())) sc_l_same_sides.nd (i_list (x_var (p := (pL pStr) x193) 2)) (blkOk_by (own := [("_law_name", 3)]) (N := ["_law_actual", "_law_expected", "_law_found", "_law_name"]) (sc := defScope (top 42)) (by decide +kernel)) (fun _ _ _ _ _ => pg_name (i := 3) sc_l_same_sides.nd rfl (by first | exact .inl rfl | exact .inr rfl)) (tw_name 3) (fun _ => rfl) (by exact fun q211 _ _ _ _ _ b206 x207 s210 => pts_T) (by exact fun q211 _ _ _ _ _ b206 x207 s210 _ => x_out (x_kd (E := fun (b_ : (((Unit × Unit) × (List Int)) × ((Unit × Unit) × (List Int)))) => pBl (decide (b_.1.2 = b_.2.2))) (x_eqL hr.units dtInt (x_kd (E := fun (b_ : ((Unit × Unit) × (List Int))) => (pL pInt) b_.2) (x_dget (κ := Str) (Ee := (pL pInt)) hr.units (x_var (p := (pM (κ := Str) (pL pInt)) a1) 0) (fun _ => x_var (p := pStr x207) 3) (fun _ _ => rdMF))) (fun _ => x_kd (E := fun (b_ : ((Unit × Unit) × (List Int))) => (pL pInt) b_.2) (x_dget (κ := Str) (Ee := (pL pInt)) hr.units (x_var (p := (pM (κ := Str) (pL pInt)) a2) 1) (fun _ => x_var (p := pStr x207) 3) (fun _ _ => rdMF))) (fun _ _ => rdF) (fun _ _ => rdF)))))))) (fun _ => rdF)))) (fun _ => rfl) (fun _ _ => rfl)))) (fun _ => List.Sublist.refl _)))))) (by unfold M_l_same_sides; rfl)
end
end My
end
section
set_option Elab.async false
set_option linter.all false
set_option maxRecDepth 100000
set_option maxHeartbeats 4000000
set_option pp.maxSteps 200
namespace My
open PySem PySem.Spec PyProof.Rows L2 L3
section
variable {P : Program} {w : World} {K : PySem.W.Frag} {mg : Str → Option Value} {base : Heap}
theorem sc_l_drawn_sides : FnScope ["_law_stream_here", "_law_names_here", "_law_pool_here", "_law_shift", "_law_sides", "_law_name", "_law_value"] ["_law_stream_here", "_law_names_here", "_law_pool_here"] (defScope (top 43)) := ⟨rfl, rfl, rfl, by decide +kernel, rfl, by decide +kernel, by decide +kernel⟩
theorem ok_l_drawn_sides {f : Addr} {fd : FuncData} (C : Ev P K mg) (FD : FnP K "_law_drawn_sides" (top 43) f fd)   : FnOk P w K mg base CX0 2 f fd ["_law_stream_here", "_law_names_here", "_law_pool_here"] (Sp_OFF_o (oL pInt) (pL pStr) (pL pInt) M_l_drawn_sides (oM (κ := Str) (pL pInt))) := by
  have m_len := C.m_len
  obtain ⟨f_l_next, fd_l_next, F_l_next, g_l_next⟩ := C.f_l_next
  have k_l_next := ok_l_next (P := P) (w := w) (base := base) C F_l_next
  have b_l_next : Binds K fd_l_next ["_law_stream_here", "_law_size"] [] := F_l_next.bindsN fun _ _ _ _ _ _ us hl => match us, hl with | [_, _], _ => rfl
  refine fn_OFF_o FD sc_l_drawn_sides rfl fun cdv A outer s H E hr v1 G1 a1 a2 a3 => ?_
  exact s_is (s_T (T := (M_l_next a1 (a2.length : Int)).bind fun r216 => (some (r216.1 : Int)).bind fun x217 => (some (([] : List (Str × List Int)) : List (Str × List Int))).bind fun x219 => grd ((cutL a2 (some x217) none).length + (cutL a2 none (some x217)).length ≤ sizeLine) ((forS ((cutL a2 (some x217) none) ++ (cutL a2 none (some x217))) ((x219, r216.2) : (List (Str × List Int)) × (List Int)) fun x225 s224 => (compM a3 (s224.2) (fun x229 s231 => (M_l_next s231 (3 : Int)).bind fun r233 => if (decide ((0 : Int) < (r233.1))) = true then some (some x229, r233.2) else some (none, r233.2))).bind fun r234 => grd ((s224.1).length < sizeLine) (some ((dput (s224.1) x225 (r234.1)), r234.2))).bind fun s226 => some (s226.1, s226.2))) (s_let (i := 3) pInt sc_l_drawn_sides.nd (x_kd (E := fun (b_ : ((Unit × Unit) × (Int × (List Int)))) => pInt b_.2.1) (x_OF_f (kk := 1) (E1 := (oL pInt)) (E2 := pInt) (s1 := fun (_ : Unit) (_ : Unit) => a1) (v1 := v1) k_l_next (hr.mono (by decide)) g_l_next F_l_next.kp b_l_next 0 (x_var (p := pV v1) 0) (fun _ => x_kd (E := fun (b_ : Unit) => pInt (a2.length : Int)) (x_lenL (Ee := pStr) m_len (x_var (p := (pL pStr) a2) 1) (fun _ => rdF))) (fun _ _ => rfl))) fun (b218 : ((Unit × Unit) × (Int × (List Int)))) x217 => s_T (T := (some (([] : List (Str × List Int)) : List (Str × List Int))).bind fun x219 => grd ((cutL a2 (some x217) none).length + (cutL a2 none (some x217)).length ≤ sizeLine) ((forS ((cutL a2 (some x217) none) ++ (cutL a2 none (some x217))) ((x219, b218.2.2) : (List (Str × List Int)) × (List Int)) fun x225 s224 => (compM a3 (s224.2) (fun x229 s231 => (M_l_next s231 (3 : Int)).bind fun r233 => if (decide ((0 : Int) < (r233.1))) = true then some (some x229, r233.2) else some (none, r233.2))).bind fun r234 => grd ((s224.1).length < sizeLine) (some ((dput (s224.1) x225 (r234.1)), r234.2))).bind fun s226 => some (s226.1, s226.2))) (s_letO (i := 4) (oM (κ := Str) (pL pInt)) sc_l_drawn_sides.nd (o_kd (E := fun (b_ : Unit) => (oM (κ := Str) (pL pInt)) ([] : List (Str × List Int))) (x_dict0 (κ := Str) (pL pInt))) fun (b220 : Unit) x219 v222 => s_T (T := grd ((cutL a2 (some x217) none).length + (cutL a2 none (some x217)).length ≤ sizeLine) ((forS ((cutL a2 (some x217) none) ++ (cutL a2 none (some x217))) ((x219, b218.2.2) : (List (Str × List Int)) × (List Int)) fun x225 s224 => (compM a3 (s224.2) (fun x229 s231 => (M_l_next s231 (3 : Int)).bind fun r233 => if (decide ((0 : Int) < (r233.1))) = true then some (some x229, r233.2) else some (none, r233.2))).bind fun r234 => grd ((s224.1).length < sizeLine) (some ((dput (s224.1) x225 (r234.1)), r234.2))).bind fun s226 => some (s226.1, s226.2))) (s_forS PassesOwn.never (fun (b_ : ((Unit × (Unit × Unit)) × (Unit × (Unit × Unit)))) (s_ : (List (Str × List Int)) × (List Int)) => ([some (pV v1), some ((pL pStr) a2), some ((pL pInt) a3), some (pInt x217), some (pV v222), none, none], [⟨v222, (oM (κ := Str) (pL pInt)) s_.1, none⟩, ⟨v1, (oL pInt) s_.2, some 0⟩])) (fun (b_ : ((Unit × (Unit × Unit)) × (Unit × (Unit × Unit)))) => (x219, b218.2.2)) (i_list (x_kd (E := fun (b_ : ((Unit × (Unit × Unit)) × (Unit × (Unit × Unit)))) => (pL pStr) ((cutL a2 (some x217) none) ++ (cutL a2 none (some x217)))) (x_frz (o_kd (E := fun (b_ : ((Unit × (Unit × Unit)) × (Unit × (Unit × Unit)))) => (oL pStr) ((cutL a2 (some x217) none) ++ (cutL a2 none (some x217)))) (x_cat (Ee := pStr) (x_kd (E := fun (b_ : (Unit × (Unit × Unit))) => (pL pStr) (cutL a2 (some x217) none)) (x_frz (o_kd (E := fun (b_ : (Unit × (Unit × Unit))) => (oL pStr) (cutL a2 (some x217) none)) (x_slL (Ee := pStr) (x_var (p := (pL pStr) a2) 1) (fun _ => p_some (i := fun (b_ : Unit) => x217) (x_var (p := pInt x217) 3)) (fun _ _ => p_none) (fun _ _ _ => rdF))))) (fun _ => x_kd (E := fun (b_ : (Unit × (Unit × Unit))) => (pL pStr) (cutL a2 none (some x217))) (x_frz (o_kd (E := fun (b_ : (Unit × (Unit × Unit))) => (oL pStr) (cutL a2 none (some x217))) (x_slL (Ee := pStr) (x_var (p := (pL pStr) a2) 1) (fun _ => p_none) (fun _ _ => p_some (i := fun (b_ : Unit) => x217) (x_var (p := pInt x217) 3)) (fun _ _ _ => rdF))))) (fun _ _ => rdF) (fun _ _ => rdF)))))) (pg_name (i := 5) sc_l_drawn_sides.nd rfl (by first | exact .inl rfl | exact .inr rfl)) (tg_name 5) (fun _ => ⟨rfl, rfl, rfl, rfl, rfl, trivial⟩) (fun _ => List.Sublist.refl _) (fun b223 x225 s224 => s_T (T := (compM a3 (s224.2) (fun x229 s231 => (M_l_next s231 (3 : Int)).bind fun r233 => if (decide ((0 : Int) < (r233.1))) = true then some (some x229, r233.2) else some (none, r233.2))).bind fun r234 => grd ((s224.1).length < sizeLine) (some ((dput (s224.1) x225 (r234.1)), r234.2))) (s_dput (κ := Str) (Ee := (pL pInt)) 0 hr.units (x_kd (E := fun (b_ : (Unit × ((List Int) × (List Int)))) => (pL pInt) b_.2.1) (x_frz (o_kd (E := fun (b_ : (Unit × ((List Int) × (List Int)))) => (oL pInt) b_.2.1) (x_lc (own := [("_law_value", 6)]) (C := fun (b_ : Unit) (s_ : (List Int)) => [⟨v222, (oM (κ := Str) (pL pInt)) s224.1, none⟩, ⟨v1, (oL pInt) s_, some 0⟩]) (s0 := fun (b_ : Unit) => s224.2) (s2 := fun (b_ : Unit) (x_ : Int) (s_ : (List Int)) (c_ : (((Unit × Unit) × (Int × (List Int))) × Unit)) => c_.1.2.2) (s3 := fun (b_ : Unit) (x_ : Int) (s_ : (List Int)) (c_ : (((Unit × Unit) × (Int × (List Int))) × Unit)) (d_ : Unit) => c_.1.2.2) (Ex := pInt) (Ee := pInt) (δ := Int) (y := fun (b_ : Unit) (x_ : Int) (s_ : (List Int)) (c_ : (((Unit × Unit) × (Int × (List Int))) × Unit)) (d_ : Unit) => x_) (T2 := fun (b_ : Unit) (x_ : Int) (s_ : (List Int)) (c_ : (((Unit × Unit) × (Int × (List Int))) × Unit)) => some (some x_, c_.1.2.2)) (c := fun (b_ : Unit) (x_ : Int) (s_ : (List Int)) (c_ : (((Unit × Unit) × (Int × (List Int))) × Unit)) => (decide ((0 : Int) < (c_.1.2.1)))) (f := fun (b_ : Unit) (x_ : Int) (s_ : (List Int)) => (M_l_next s_ (3 : Int)).bind fun r233 => if (decide ((0 : Int) < (r233.1))) = true then some (some x_, r233.2) else some (none, r233.2)) sc_l_drawn_sides.nd (i_list (x_var (p := (pL pInt) a3) 2)) (blkOk_by (own := [("_law_value", 6)]) (N := ["_law_stream_here", "_law_names_here", "_law_pool_here", "_law_shift", "_law_sides", "_law_name", "_law_value"]) (sc := defScope (top 43)) (by decide +kernel)) (fun _ _ _ _ _ => pg_name (i := 6) sc_l_drawn_sides.nd rfl (by first | exact .inl rfl | exact .inr rfl)) (tw_name 6) (fun _ => rfl) (by exact fun q232 _ _ _ _ _ b228 x229 s231 => t_out (pts_one (t_kd (c := fun (b_ : (((Unit × Unit) × (Int × (List Int))) × Unit)) => (decide ((0 : Int) < (b_.1.2.1)))) (t_gt (x_kd (E := fun (b_ : ((Unit × Unit) × (Int × (List Int)))) => pInt b_.2.1) (x_OF_f (kk := 1) (E1 := (oL pInt)) (E2 := pInt) (s1 := fun (_ : Unit) (_ : Unit) => s231) (v1 := v1) k_l_next (hr.mono (by decide)) g_l_next F_l_next.kp b_l_next 1 (x_var (p := pV v1) 0) (fun _ => x_int (i := 3)) (fun _ _ => rfl))) (fun _ => x_int (i := 0)))))) (by exact fun q232 _ _ _ _ _ b228 x229 s231 _ => x_out (x_var (p := pInt x229) 6)))))) (fun _ => x_var (p := pV v222) 4) (fun _ _ => x_var (p := pStr x225) 5) (fun _ _ _ => rfl) fun (b235 : (((Unit × ((List Int) × (List Int))) × Unit) × Unit)) => s_end ((dput (s224.1) x225 (b235.1.1.2.1)), b235.1.1.2.2) rfl ⟨rfl, rfl, rfl, rfl, rfl, trivial⟩ (List.Sublist.refl _))) fun b223 s226 => s_T (T := some (s226.1, s226.2)) (s_retV 0 (P := (fun (r : (List (Str × List Int)) × (List Int)) => [⟨v1, (oL pInt) r.2, some 0⟩])) (Ro := (fun (r : (List (Str × List Int)) × (List Int)) => (oM (κ := Str) (pL pInt)) r.1)) (ι := id) (rv := fun _ => (s226.1, s226.2)) (fun _ _ _ h => h) (x_var (p := pV v222) 4) (fun _ => rfl) (fun _ => List.Sublist.refl _)))))) (by unfold M_l_drawn_sides; rfl)
end
end My
end
section
set_option Elab.async false
set_option linter.all false
set_option maxRecDepth 100000
set_option maxHeartbeats 4000000
set_option pp.maxSteps 200
namespace My
open PySem PySem.Spec PyProof.Rows L2 L3
section
variable {P : Program} {w : World} {K : PySem.W.Frag} {mg : Str → Option Value} {base : Heap}
theorem sc_l_copied : FnScope ["_law_sides", "_law_copied_here", "_law_name"] ["_law_sides"] (defScope (top 44)) := ⟨rfl, rfl, rfl, by decide +kernel, rfl, by decide +kernel, by decide +kernel⟩
theorem ok_l_copied {f : Addr} {fd : FuncData} (C : Ev P K mg) (FD : FnP K "_law_copied" (top 44) f fd)   : FnOk P w K mg base CX0 1 f fd ["_law_sides"] (Sp_F_o (pM (κ := Str) (pL pInt)) M_l_copied (oM (κ := Str) (pL pInt))) := by
  have m_list := C.m_list
  refine fn_F_o FD sc_l_copied rfl fun cdv A outer s H E hr  a1 => ?_
  exact s_is (s_T (T := (some (([] : List (Str × List Int)) : List (Str × List Int))).bind fun x236 => (forS (a1.map Prod.fst) (x236 : (List (Str × List Int))) fun x242 s241 => (dget a1 x242).bind fun x245 => grd (s241.length < sizeLine) (some (dput s241 x242 x245))).bind fun s243 => some s243) (s_letO (i := 1) (oM (κ := Str) (pL pInt)) sc_l_copied.nd (o_kd (E := fun (b_ : Unit) => (oM (κ := Str) (pL pInt)) ([] : List (Str × List Int))) (x_dict0 (κ := Str) (pL pInt))) fun (b237 : Unit) x236 v239 => s_T (T := (forS (a1.map Prod.fst) (x236 : (List (Str × List Int))) fun x242 s241 => (dget a1 x242).bind fun x245 => grd (s241.length < sizeLine) (some (dput s241 x242 x245))).bind fun s243 => some s243) (s_forS PassesOwn.never (fun (b_ : Unit) (s_ : (List (Str × List Int))) => ([some ((pM (κ := Str) (pL pInt)) a1), some (pV v239), none], [⟨v239, (oM (κ := Str) (pL pInt)) s_, none⟩])) (fun (b_ : Unit) => x236) (i_mkeys (κ := Str) (x_var (p := (pM (κ := Str) (pL pInt)) a1) 0)) (pg_name (i := 2) sc_l_copied.nd rfl (by first | exact .inl rfl | exact .inr rfl)) (tg_name 2) (fun _ => ⟨rfl, rfl, trivial⟩) (fun _ => List.Sublist.refl _) (fun b240 x242 s241 => s_T (T := (dget a1 x242).bind fun x245 => grd (s241.length < sizeLine) (some (dput s241 x242 x245))) (s_dput (κ := Str) (Ee := (pL pInt)) 0 hr.units (x_kd (E := fun (b_ : ((Unit × Unit) × (List Int))) => (pL pInt) b_.2) (x_frz (o_kd (E := fun (b_ : ((Unit × Unit) × (List Int))) => (oL pInt) b_.2) (x_listL (Ee := pInt) m_list (x_kd (E := fun (b_ : ((Unit × Unit) × (List Int))) => (pL pInt) b_.2) (x_dget (κ := Str) (Ee := (pL pInt)) hr.units (x_var (p := (pM (κ := Str) (pL pInt)) a1) 0) (fun _ => x_var (p := pStr x242) 2) (fun _ _ => rdMF))) (fun _ => rdF))))) (fun _ => x_var (p := pV v239) 1) (fun _ _ => x_var (p := pStr x242) 2) (fun _ _ _ => rfl) fun (b246 : ((((Unit × Unit) × (List Int)) × Unit) × Unit)) => s_end (dput s241 x242 b246.1.1.2) rfl ⟨rfl, rfl, trivial⟩ (List.Sublist.refl _))) fun b240 s243 => s_T (T := some s243) (s_retV 0 (P := (fun _ => [])) (Ro := (oM (κ := Str) (pL pInt))) (ι := id) (rv := fun _ => s243) (fun _ _ _ h => h) (x_var (p := pV v239) 1) (fun _ => rfl) (fun _ => List.Sublist.refl _))))) (by unfold M_l_copied; rfl)
end
end My
end
section
set_option Elab.async false
set_option linter.all false
set_option maxRecDepth 100000
set_option maxHeartbeats 4000000
set_option pp.maxSteps 200
namespace My
open PySem PySem.Spec PyProof.Rows L2 L3
section
variable {P : Program} {w : World} {K : PySem.W.Frag} {mg : Str → Option Value} {base : Heap}
theorem sc_l_join : FnScope ["_law_first", "_law_second", "_law_name", "_law_sides", "_law_other", "_law_value"] ["_law_first", "_law_second", "_law_name"] (defScope (top 45)) := ⟨rfl, rfl, rfl, by decide +kernel, rfl, by decide +kernel, by decide +kernel⟩
theorem ok_l_join {f : Addr} {fd : FuncData} (C : Ev P K mg) (FD : FnP K "_law_join" (top 45) f fd)   : FnOk P w K mg base CX0 1 f fd ["_law_first", "_law_second", "_law_name"] (Sp_FFF_o (pM (κ := Str) (pL pInt)) (pM (κ := Str) (pL pInt)) pStr M_l_join (oM (κ := Str) (pL pInt))) := by
  have m_sorted := C.m_sorted
  refine fn_FFF_o FD sc_l_join rfl fun cdv A outer s H E hr  a1 a2 a3 => ?_
  exact s_is (s_T (T := (some (([] : List (Str × List Int)) : List (Str × List Int))).bind fun x247 => (forS (a1.map Prod.fst) (x247 : (List (Str × List Int))) fun x253 s252 => (dget a1 x253).bind fun x266 => (compM x266 () (fun x268 s270 => (dget a2 x253).bind fun x272 => if (decide (x268 ∈ x272)) = true then some (some x268, ()) else some (none, ()))).bind fun r273 => grd (s252.length < sizeLine) (some (dput s252 x253 (r273.1)))).bind fun s254 => (dget a1 a3).bind fun x255 => (dget a2 a3).bind fun x256 => (compM x256 () (fun x258 s260 => (dget a1 a3).bind fun x262 => if (!decide (x258 ∈ x262)) = true then some (some x258, ()) else some (none, ()))).bind fun r263 => grd (x255.length + (r263.1).length ≤ sizeLine) (grd (s254.length < sizeLine) (some (dput s254 a3 (srt (x255 ++ (r263.1))))))) (s_letO (i := 3) (oM (κ := Str) (pL pInt)) sc_l_join.nd (o_kd (E := fun (b_ : Unit) => (oM (κ := Str) (pL pInt)) ([] : List (Str × List Int))) (x_dict0 (κ := Str) (pL pInt))) fun (b248 : Unit) x247 v250 => s_T (T := (forS (a1.map Prod.fst) (x247 : (List (Str × List Int))) fun x253 s252 => (dget a1 x253).bind fun x266 => (compM x266 () (fun x268 s270 => (dget a2 x253).bind fun x272 => if (decide (x268 ∈ x272)) = true then some (some x268, ()) else some (none, ()))).bind fun r273 => grd (s252.length < sizeLine) (some (dput s252 x253 (r273.1)))).bind fun s254 => (dget a1 a3).bind fun x255 => (dget a2 a3).bind fun x256 => (compM x256 () (fun x258 s260 => (dget a1 a3).bind fun x262 => if (!decide (x258 ∈ x262)) = true then some (some x258, ()) else some (none, ()))).bind fun r263 => grd (x255.length + (r263.1).length ≤ sizeLine) (grd (s254.length < sizeLine) (some (dput s254 a3 (srt (x255 ++ (r263.1))))))) (s_forS PassesOwn.never (fun (b_ : Unit) (s_ : (List (Str × List Int))) => ([some ((pM (κ := Str) (pL pInt)) a1), some ((pM (κ := Str) (pL pInt)) a2), some (pStr a3), some (pV v250), none, none], [⟨v250, (oM (κ := Str) (pL pInt)) s_, none⟩])) (fun (b_ : Unit) => x247) (i_mkeys (κ := Str) (x_var (p := (pM (κ := Str) (pL pInt)) a1) 0)) (pg_name (i := 4) sc_l_join.nd rfl (by first | exact .inl rfl | exact .inr rfl)) (tg_name 4) (fun _ => ⟨rfl, rfl, rfl, rfl, trivial⟩) (fun _ => List.Sublist.refl _) (fun b251 x253 s252 => s_T (T := (dget a1 x253).bind fun x266 => (compM x266 () (fun x268 s270 => (dget a2 x253).bind fun x272 => if (decide (x268 ∈ x272)) = true then some (some x268, ()) else some (none, ()))).bind fun r273 => grd (s252.length < sizeLine) (some (dput s252 x253 (r273.1)))) (s_dput (κ := Str) (Ee := (pL pInt)) 0 hr.units (x_kd (E := fun (b_ : (((Unit × Unit) × (List Int)) × ((List Int) × Unit))) => (pL pInt) b_.2.1) (x_frz (o_kd (E := fun (b_ : (((Unit × Unit) × (List Int)) × ((List Int) × Unit))) => (oL pInt) b_.2.1) (x_lc (own := [("_law_value", 5)]) (C := fun (b_ : ((Unit × Unit) × (List Int))) (s_ : Unit) => [⟨v250, (oM (κ := Str) (pL pInt)) s252, none⟩]) (s0 := fun (b_ : ((Unit × Unit) × (List Int))) => ()) (s2 := fun (b_ : ((Unit × Unit) × (List Int))) (x_ : Int) (s_ : Unit) (c_ : (Unit × ((Unit × Unit) × (List Int)))) => ()) (s3 := fun (b_ : ((Unit × Unit) × (List Int))) (x_ : Int) (s_ : Unit) (c_ : (Unit × ((Unit × Unit) × (List Int)))) (d_ : Unit) => ()) (Ex := pInt) (Ee := pInt) (δ := Int) (y := fun (b_ : ((Unit × Unit) × (List Int))) (x_ : Int) (s_ : Unit) (c_ : (Unit × ((Unit × Unit) × (List Int)))) (d_ : Unit) => x_) (T2 := fun (b_ : ((Unit × Unit) × (List Int))) (x_ : Int) (s_ : Unit) (c_ : (Unit × ((Unit × Unit) × (List Int)))) => some (some x_, ())) (c := fun (b_ : ((Unit × Unit) × (List Int))) (x_ : Int) (s_ : Unit) (c_ : (Unit × ((Unit × Unit) × (List Int)))) => (decide (x_ ∈ c_.2.2))) (f := fun (b_ : ((Unit × Unit) × (List Int))) (x_ : Int) (s_ : Unit) => (dget a2 x253).bind fun x272 => if (decide (x_ ∈ x272)) = true then some (some x_, ()) else some (none, ())) sc_l_join.nd (i_list (x_kd (E := fun (b_ : ((Unit × Unit) × (List Int))) => (pL pInt) b_.2) (x_dget (κ := Str) (Ee := (pL pInt)) hr.units (x_var (p := (pM (κ := Str) (pL pInt)) a1) 0) (fun _ => x_var (p := pStr x253) 4) (fun _ _ => rdMF)))) (blkOk_by (own := [("_law_value", 5)]) (N := ["_law_first", "_law_second", "_law_name", "_law_sides", "_law_other", "_law_value"]) (sc := defScope (top 45)) (by decide +kernel)) (fun _ _ _ _ _ => pg_name (i := 5) sc_l_join.nd rfl (by first | exact .inl rfl | exact .inr rfl)) (tw_name 5) (fun _ => rfl) (by exact fun q271 _ _ _ _ _ b267 x268 s270 => t_out (pts_one (t_kd (c := fun (b_ : (Unit × ((Unit × Unit) × (List Int)))) => (decide (x268 ∈ b_.2.2))) (t_inL flInt (x_var (p := pInt x268) 5) (fun _ => x_kd (E := fun (b_ : ((Unit × Unit) × (List Int))) => (pL pInt) b_.2) (x_dget (κ := Str) (Ee := (pL pInt)) hr.units (x_var (p := (pM (κ := Str) (pL pInt)) a2) 1) (fun _ => x_var (p := pStr x253) 4) (fun _ _ => rdMF))) (fun _ _ => rdF))))) (by exact fun q271 _ _ _ _ _ b267 x268 s270 _ => x_out (x_var (p := pInt x268) 5)))))) (fun _ => x_var (p := pV v250) 3) (fun _ _ => x_var (p := pStr x253) 4) (fun _ _ _ => rfl) fun (b274 : (((((Unit × Unit) × (List Int)) × ((List Int) × Unit)) × Unit) × Unit)) => s_end (dput s252 x253 (b274.1.1.2.1)) rfl ⟨rfl, rfl, rfl, rfl, trivial⟩ (List.Sublist.refl _))) fun b251 s254 => s_T (T := (dget a1 a3).bind fun x255 => (dget a2 a3).bind fun x256 => (compM x256 () (fun x258 s260 => (dget a1 a3).bind fun x262 => if (!decide (x258 ∈ x262)) = true then some (some x258, ()) else some (none, ()))).bind fun r263 => grd (x255.length + (r263.1).length ≤ sizeLine) (grd (s254.length < sizeLine) (some (dput s254 a3 (srt (x255 ++ (r263.1))))))) (s_dput (κ := Str) (Ee := (pL pInt)) 0 hr.units (x_kd (E := fun (b_ : (((Unit × Unit) × (List Int)) × (((Unit × Unit) × (List Int)) × ((List Int) × Unit)))) => (pL pInt) (srt (b_.1.2 ++ (b_.2.2.1)))) (x_frz (o_kd (E := fun (b_ : (((Unit × Unit) × (List Int)) × (((Unit × Unit) × (List Int)) × ((List Int) × Unit)))) => (oL pInt) (srt (b_.1.2 ++ (b_.2.2.1)))) (x_sortedI m_sorted (x_kd (E := fun (b_ : (((Unit × Unit) × (List Int)) × (((Unit × Unit) × (List Int)) × ((List Int) × Unit)))) => (pL pInt) (b_.1.2 ++ (b_.2.2.1))) (x_frz (o_kd (E := fun (b_ : (((Unit × Unit) × (List Int)) × (((Unit × Unit) × (List Int)) × ((List Int) × Unit)))) => (oL pInt) (b_.1.2 ++ (b_.2.2.1))) (x_cat (Ee := pInt) (x_kd (E := fun (b_ : ((Unit × Unit) × (List Int))) => (pL pInt) b_.2) (x_dget (κ := Str) (Ee := (pL pInt)) hr.units (x_var (p := (pM (κ := Str) (pL pInt)) a1) 0) (fun _ => x_var (p := pStr a3) 2) (fun _ _ => rdMF))) (fun _ => x_kd (E := fun (b_ : (((Unit × Unit) × (List Int)) × ((List Int) × Unit))) => (pL pInt) b_.2.1) (x_frz (o_kd (E := fun (b_ : (((Unit × Unit) × (List Int)) × ((List Int) × Unit))) => (oL pInt) b_.2.1) (x_lc (own := [("_law_value", 5)]) (C := fun (b_ : ((Unit × Unit) × (List Int))) (s_ : Unit) => [⟨v250, (oM (κ := Str) (pL pInt)) s254, none⟩]) (s0 := fun (b_ : ((Unit × Unit) × (List Int))) => ()) (s2 := fun (b_ : ((Unit × Unit) × (List Int))) (x_ : Int) (s_ : Unit) (c_ : (Unit × ((Unit × Unit) × (List Int)))) => ()) (s3 := fun (b_ : ((Unit × Unit) × (List Int))) (x_ : Int) (s_ : Unit) (c_ : (Unit × ((Unit × Unit) × (List Int)))) (d_ : Unit) => ()) (Ex := pInt) (Ee := pInt) (δ := Int) (y := fun (b_ : ((Unit × Unit) × (List Int))) (x_ : Int) (s_ : Unit) (c_ : (Unit × ((Unit × Unit) × (List Int)))) (d_ : Unit) => x_) (T2 := fun (b_ : ((Unit × Unit) × (List Int))) (x_ : Int) (s_ : Unit) (c_ : (Unit × ((Unit × Unit) × (List Int)))) => some (some x_, ())) (c := fun (b_ : ((Unit × Unit) × (List Int))) (x_ : Int) (s_ : Unit) (c_ : (Unit × ((Unit × Unit) × (List Int)))) => (!decide (x_ ∈ c_.2.2))) (f := fun (b_ : ((Unit × Unit) × (List Int))) (x_ : Int) (s_ : Unit) => (dget a1 a3).bind fun x262 => if (!decide (x_ ∈ x262)) = true then some (some x_, ()) else some (none, ())) sc_l_join.nd (i_list (x_kd (E := fun (b_ : ((Unit × Unit) × (List Int))) => (pL pInt) b_.2) (x_dget (κ := Str) (Ee := (pL pInt)) hr.units (x_var (p := (pM (κ := Str) (pL pInt)) a2) 1) (fun _ => x_var (p := pStr a3) 2) (fun _ _ => rdMF)))) (blkOk_by (own := [("_law_value", 5)]) (N := ["_law_first", "_law_second", "_law_name", "_law_sides", "_law_other", "_law_value"]) (sc := defScope (top 45)) (by decide +kernel)) (fun _ _ _ _ _ => pg_name (i := 5) sc_l_join.nd rfl (by first | exact .inl rfl | exact .inr rfl)) (tw_name 5) (fun _ => rfl) (by exact fun q261 _ _ _ _ _ b257 x258 s260 => t_out (pts_one (t_kd (c := fun (b_ : (Unit × ((Unit × Unit) × (List Int)))) => (!decide (x258 ∈ b_.2.2))) (t_ninL flInt (x_var (p := pInt x258) 5) (fun _ => x_kd (E := fun (b_ : ((Unit × Unit) × (List Int))) => (pL pInt) b_.2) (x_dget (κ := Str) (Ee := (pL pInt)) hr.units (x_var (p := (pM (κ := Str) (pL pInt)) a1) 0) (fun _ => x_var (p := pStr a3) 2) (fun _ _ => rdMF))) (fun _ _ => rdF))))) (by exact fun q261 _ _ _ _ _ b257 x258 s260 _ => x_out (x_var (p := pInt x258) 5)))))) (fun _ _ => rdF) (fun _ _ => rdF))))) (fun _ => rdF))))) (fun _ => x_var (p := pV v250) 3) (fun _ _ => x_var (p := pStr a3) 2) (fun _ _ _ => rfl) fun (b264 : (((((Unit × Unit) × (List Int)) × (((Unit × Unit) × (List Int)) × ((List Int) × Unit))) × Unit) × Unit)) => s_T (T := some (dput s254 a3 (srt (b264.1.1.1.2 ++ (b264.1.1.2.2.1))))) (s_retV 0 (P := (fun _ => [])) (Ro := (oM (κ := Str) (pL pInt))) (ι := id) (rv := fun _ => (dput s254 a3 (srt (b264.1.1.1.2 ++ (b264.1.1.2.2.1))))) (fun _ _ _ h => h) (x_var (p := pV v250) 3) (fun _ => rfl) (fun _ => List.Sublist.refl _)))))) (by unfold M_l_join; rfl)
end
end My
end
section
set_option Elab.async false
set_option linter.all false
set_option maxRecDepth 100000
set_option maxHeartbeats 4000000
set_option pp.maxSteps 200
namespace My
open PySem PySem.Spec PyProof.Rows L2 L3
section
variable {P : Program} {w : World} {K : PySem.W.Frag} {mg : Str → Option Value} {base : Heap}
theorem sc_l_joined : FnScope ["_law_boxes", "_law_steps", "_law_known", "_law_step", "_law_sides"] ["_law_boxes", "_law_steps"] (defScope (top 46)) := ⟨rfl, rfl, rfl, by decide +kernel, rfl, by decide +kernel, by decide +kernel⟩
theorem ok_l_joined {f : Addr} {fd : FuncData} (C : Ev P K mg) (FD : FnP K "_law_joined" (top 46) f fd)   : FnOk P w K mg base CX0 2 f fd ["_law_boxes", "_law_steps"] (Sp_FF_o (pL (pM (κ := Str) (pL pInt))) (pL (pT3 pStr pInt pInt)) M_l_joined (oL (pM (κ := Str) (pL pInt)))) := by
  obtain ⟨f_l_copied, fd_l_copied, F_l_copied, g_l_copied⟩ := C.f_l_copied
  have k_l_copied := ok_l_copied (P := P) (w := w) (base := base) C F_l_copied
  have b_l_copied : Binds K fd_l_copied ["_law_sides"] [] := F_l_copied.bindsN fun _ _ _ _ _ _ us hl => match us, hl with | [_], _ => rfl
  obtain ⟨f_l_join, fd_l_join, F_l_join, g_l_join⟩ := C.f_l_join
  have k_l_join := ok_l_join (P := P) (w := w) (base := base) C F_l_join
  have b_l_join : Binds K fd_l_join ["_law_first", "_law_second", "_law_name"] [] := F_l_join.bindsN fun _ _ _ _ _ _ us hl => match us, hl with | [_, _, _], _ => rfl
  refine fn_FF_o FD sc_l_joined rfl fun cdv A outer s H E hr  a1 a2 => ?_
  exact s_is (s_T (T := (compM a1 () (fun x276 s278 => if true = true then (M_l_copied x276).bind fun r280 => some (some r280, ()) else some (none, ()))).bind fun r281 => (some (r281.1 : List (List (Str × List Int)))).bind fun x282 => (forS a2 (x282 : (List (List (Str × List Int)))) fun x288 s287 => (atI s287 (x288.2.1)).bind fun x291 => (atI s287 (x288.2.2)).bind fun x292 => (M_l_join x291 x292 (x288.1)).bind fun r293 => grd (s287.length < sizeLine) (some (s287 ++ [r293]))).bind fun s289 => some s289) (s_letOA (i := 2) (oL (pM (κ := Str) (pL pInt))) (a_lc (i := 2) (own := [("_law_sides", 4)]) (C := fun (b_ : Unit) (s_ : Unit) => []) (s0 := fun (b_ : Unit) => ()) (s2 := fun (b_ : Unit) (x_ : List (Str × List Int)) (s_ : Unit) (c_ : Unit) => ()) (s3 := fun (b_ : Unit) (x_ : List (Str × List Int)) (s_ : Unit) (c_ : Unit) (d_ : (Unit × (List (Str × List Int)))) => ()) (Ex := (pM (κ := Str) (pL pInt))) (Ee := (pM (κ := Str) (pL pInt))) (δ := (List (Str × List Int))) (y := fun (b_ : Unit) (x_ : List (Str × List Int)) (s_ : Unit) (c_ : Unit) (d_ : (Unit × (List (Str × List Int)))) => d_.2) (T2 := fun (b_ : Unit) (x_ : List (Str × List Int)) (s_ : Unit) (c_ : Unit) => (M_l_copied x_).bind fun r280 => some (some r280, ())) (c := fun (b_ : Unit) (x_ : List (Str × List Int)) (s_ : Unit) (c_ : Unit) => true) (f := fun (b_ : Unit) (x_ : List (Str × List Int)) (s_ : Unit) => if true = true then (M_l_copied x_).bind fun r280 => some (some r280, ()) else some (none, ())) sc_l_joined.nd (i_list (x_var (p := (pL (pM (κ := Str) (pL pInt))) a1) 0)) (blkOk_by (own := [("_law_sides", 4)]) (N := ["_law_boxes", "_law_steps", "_law_known", "_law_step", "_law_sides"]) (sc := defScope (top 46)) (by decide +kernel)) (fun _ _ _ _ _ => pg_name (i := 4) sc_l_joined.nd rfl (by first | exact .inl rfl | exact .inr rfl)) (tw_name 4) (fun _ => rfl) (by exact fun q279 _ _ _ _ _ b275 x276 s278 => pts_T) (by exact fun q279 _ _ _ _ _ b275 x276 s278 _ => x_out (x_kd (E := fun (b_ : (Unit × (List (Str × List Int)))) => (pM (κ := Str) (pL pInt)) b_.2) (x_frz (o_kd (E := fun (b_ : (Unit × (List (Str × List Int)))) => (oM (κ := Str) (pL pInt)) b_.2) (x_F_o (kk := 1) (E1 := (pM (κ := Str) (pL pInt))) k_l_copied (hr.mono (by decide)) g_l_copied F_l_copied.kp b_l_copied (x_var (p := (pM (κ := Str) (pL pInt)) x276) 4)))))) (sw_true rfl rfl rfl (by decide +kernel))) fun (b283 : (Unit × ((List (List (Str × List Int))) × Unit))) x282 v285 => s_T (T := (forS a2 (x282 : (List (List (Str × List Int)))) fun x288 s287 => (atI s287 (x288.2.1)).bind fun x291 => (atI s287 (x288.2.2)).bind fun x292 => (M_l_join x291 x292 (x288.1)).bind fun r293 => grd (s287.length < sizeLine) (some (s287 ++ [r293]))).bind fun s289 => some s289) (s_forS PassesOwn.never (fun (b_ : Unit) (s_ : (List (List (Str × List Int)))) => ([some ((pL (pM (κ := Str) (pL pInt))) a1), some ((pL (pT3 pStr pInt pInt)) a2), some (pV v285), none, none], [⟨v285, (oL (pM (κ := Str) (pL pInt))) s_, none⟩])) (fun (b_ : Unit) => x282) (i_list (x_var (p := (pL (pT3 pStr pInt pInt)) a2) 1)) (pg_name (i := 3) sc_l_joined.nd rfl (by first | exact .inl rfl | exact .inr rfl)) (tg_name 3) (fun _ => ⟨rfl, rfl, rfl, trivial⟩) (fun _ => List.Sublist.refl _) (fun b286 x288 s287 => s_T (T := (atI s287 (x288.2.1)).bind fun x291 => (atI s287 (x288.2.2)).bind fun x292 => (M_l_join x291 x292 (x288.1)).bind fun r293 => grd (s287.length < sizeLine) (some (s287 ++ [r293]))) (s_expr (x_app 0 (x_var (p := pV v285) 2) (fun _ => x_kd (E := fun (b_ : ((((Unit × Unit) × (List (Str × List Int))) × (((Unit × Unit) × (List (Str × List Int))) × Unit)) × (List (Str × List Int)))) => (pM (κ := Str) (pL pInt)) b_.2) (x_frz (o_kd (E := fun (b_ : ((((Unit × Unit) × (List (Str × List Int))) × (((Unit × Unit) × (List (Str × List Int))) × Unit)) × (List (Str × List Int)))) => (oM (κ := Str) (pL pInt)) b_.2) (x_FFF_o (kk := 1) (E1 := (pM (κ := Str) (pL pInt))) (E2 := (pM (κ := Str) (pL pInt))) (E3 := pStr) k_l_join (hr.mono (by decide)) g_l_join F_l_join.kp b_l_join (x_kd (E := fun (b_ : ((Unit × Unit) × (List (Str × List Int)))) => (pM (κ := Str) (pL pInt)) b_.2) (x_ixL (Ee := (pM (κ := Str) (pL pInt))) (x_var (p := pV v285) 2) (fun _ => x_kd (E := fun (b_ : Unit) => pInt x288.2.1) (x_t31 (x_var (p := (pT3 pStr pInt pInt) x288) 3))) (fun _ _ => rdO 0))) (fun _ => x_kd (E := fun (b_ : ((Unit × Unit) × (List (Str × List Int)))) => (pM (κ := Str) (pL pInt)) b_.2) (x_ixL (Ee := (pM (κ := Str) (pL pInt))) (x_var (p := pV v285) 2) (fun _ => x_kd (E := fun (b_ : Unit) => pInt x288.2.2) (x_t32 (x_var (p := (pT3 pStr pInt pInt) x288) 3))) (fun _ _ => rdO 0))) (fun _ _ => x_kd (E := fun (b_ : Unit) => pStr x288.1) (x_t30 (x_var (p := (pT3 pStr pInt pInt) x288) 3))))))) (fun _ => rfl) (fun _ _ => rfl)) fun (b294 : (Unit × ((((Unit × Unit) × (List (Str × List Int))) × (((Unit × Unit) × (List (Str × List Int))) × Unit)) × (List (Str × List Int))))) => s_end (s287 ++ [b294.2.2]) rfl ⟨rfl, rfl, rfl, trivial⟩ (List.Sublist.refl _))) fun b286 s289 => s_T (T := some s289) (s_retV 0 (P := (fun _ => [])) (Ro := (oL (pM (κ := Str) (pL pInt)))) (ι := id) (rv := fun _ => s289) (fun _ _ _ h => h) (x_var (p := pV v285) 2) (fun _ => rfl) (fun _ => List.Sublist.refl _))))) (by unfold M_l_joined; rfl)
end
end My
end
section
set_option Elab.async false
set_option linter.all false
set_option maxRecDepth 100000
set_option maxHeartbeats 4000000
set_option pp.maxSteps 200
namespace My
open PySem PySem.Spec PyProof.Rows L2 L3
section
variable {P : Program} {w : World} {K : PySem.W.Frag} {mg : Str → Option Value} {base : Heap}
theorem sc_l_good_steps : FnScope ["_law_stream_here", "_law_names_here", "_law_start", "_law_count", "_law_steps", "_law_k", "_law_name"] ["_law_stream_here", "_law_names_here", "_law_start", "_law_count"] (defScope (top 47)) := ⟨rfl, rfl, rfl, by decide +kernel, rfl, by decide +kernel, by decide +kernel⟩
theorem ok_l_good_steps {f : Addr} {fd : FuncData} (C : Ev P K mg) (FD : FnP K "_law_good_steps" (top 47) f fd)   : FnOk P w K mg base CX0 2 f fd ["_law_stream_here", "_law_names_here", "_law_start", "_law_count"] (Sp_OFFF_o (oL pInt) (pL pStr) pInt pInt M_l_good_steps (oL (pT3 pStr pInt pInt))) := by
  have m_len := C.m_len
  have m_max := C.m_max
  have m_range := C.m_range
  obtain ⟨f_l_next, fd_l_next, F_l_next, g_l_next⟩ := C.f_l_next
  have k_l_next := ok_l_next (P := P) (w := w) (base := base) C F_l_next
  have b_l_next : Binds K fd_l_next ["_law_stream_here", "_law_size"] [] := F_l_next.bindsN fun _ _ _ _ _ _ us hl => match us, hl with | [_, _], _ => rfl
  refine fn_OFFF_o FD sc_l_good_steps rfl fun cdv A outer s H E hr v1 G1 a1 a2 a3 a4 => ?_
  exact s_is (s_T (T := (some ([] : List (Str × Int × Int))).bind fun x295 => grd (rg a4 = true) ((forS (rngL 0 a4.toNat) ((x295, a1) : (List (Str × Int × Int)) × (List Int)) fun x301 s300 => (M_l_next (s300.2) (a2.length : Int)).bind fun r304 => (atI a2 (r304.1)).bind fun x305 => (some (x305 : Str)).bind fun x306 => (M_l_next (r304.2) (max (1 : Int) (a3 + x301))).bind fun r308 => (M_l_next (r308.2) (max (1 : Int) (a3 + x301))).bind fun r309 => grd ((s300.1).length < sizeLine) (some (((s300.1) ++ [(x306, r308.1, r309.1)]), r309.2))).bind fun s302 => some (s302.1, s302.2))) (s_letO (i := 4) (oL (pT3 pStr pInt pInt)) sc_l_good_steps.nd (o_kd (E := fun (b_ : Unit) => (oL (pT3 pStr pInt pInt)) ([])) (x_nil (pT3 pStr pInt pInt))) fun (b296 : Unit) x295 v298 => s_T (T := grd (rg a4 = true) ((forS (rngL 0 a4.toNat) ((x295, a1) : (List (Str × Int × Int)) × (List Int)) fun x301 s300 => (M_l_next (s300.2) (a2.length : Int)).bind fun r304 => (atI a2 (r304.1)).bind fun x305 => (some (x305 : Str)).bind fun x306 => (M_l_next (r304.2) (max (1 : Int) (a3 + x301))).bind fun r308 => (M_l_next (r308.2) (max (1 : Int) (a3 + x301))).bind fun r309 => grd ((s300.1).length < sizeLine) (some (((s300.1) ++ [(x306, r308.1, r309.1)]), r309.2))).bind fun s302 => some (s302.1, s302.2))) (s_forS PassesOwn.never (fun (b_ : Unit) (s_ : (List (Str × Int × Int)) × (List Int)) => ([some (pV v1), some ((pL pStr) a2), some (pInt a3), some (pInt a4), some (pV v298), none, none], [⟨v298, (oL (pT3 pStr pInt pInt)) s_.1, none⟩, ⟨v1, (oL pInt) s_.2, some 0⟩])) (fun (b_ : Unit) => (x295, a1)) (i_rng1 m_range (x_var (p := pInt a4) 3)) (pg_name (i := 5) sc_l_good_steps.nd rfl (by first | exact .inl rfl | exact .inr rfl)) (tg_name 5) (fun _ => ⟨rfl, rfl, rfl, rfl, rfl, trivial⟩) (fun _ => List.Sublist.refl _) (fun b299 x301 s300 => s_T (T := (M_l_next (s300.2) (a2.length : Int)).bind fun r304 => (atI a2 (r304.1)).bind fun x305 => (some (x305 : Str)).bind fun x306 => (M_l_next (r304.2) (max (1 : Int) (a3 + x301))).bind fun r308 => (M_l_next (r308.2) (max (1 : Int) (a3 + x301))).bind fun r309 => grd ((s300.1).length < sizeLine) (some (((s300.1) ++ [(x306, r308.1, r309.1)]), r309.2))) (s_let (i := 6) pStr sc_l_good_steps.nd (x_kd (E := fun (b_ : ((Unit × ((Unit × Unit) × (Int × (List Int)))) × Str)) => pStr b_.2) (x_ixL (Ee := pStr) (x_var (p := (pL pStr) a2) 1) (fun _ => x_kd (E := fun (b_ : ((Unit × Unit) × (Int × (List Int)))) => pInt b_.2.1) (x_OF_f (kk := 1) (E1 := (oL pInt)) (E2 := pInt) (s1 := fun (_ : Unit) (_ : Unit) => s300.2) (v1 := v1) k_l_next (hr.mono (by decide)) g_l_next F_l_next.kp b_l_next 1 (x_var (p := pV v1) 0) (fun _ => x_kd (E := fun (b_ : Unit) => pInt (a2.length : Int)) (x_lenL (Ee := pStr) m_len (x_var (p := (pL pStr) a2) 1) (fun _ => rdF))) (fun _ _ => rfl))) (fun _ _ => rdF))) fun (b307 : ((Unit × ((Unit × Unit) × (Int × (List Int)))) × Str)) x306 => s_T (T := (M_l_next (b307.1.2.2.2) (max (1 : Int) (a3 + x301))).bind fun r308 => (M_l_next (r308.2) (max (1 : Int) (a3 + x301))).bind fun r309 => grd ((s300.1).length < sizeLine) (some (((s300.1) ++ [(x306, r308.1, r309.1)]), r309.2))) (s_expr (x_app 0 (x_var (p := pV v298) 4) (fun _ => x_kd (E := fun (b_ : (Unit × (((Unit × (Unit × (Unit × Unit))) × (Int × (List Int))) × (((Unit × (Unit × (Unit × Unit))) × (Int × (List Int))) × Unit)))) => (pT3 pStr pInt pInt) (x306, b_.2.1.2.1, b_.2.2.1.2.1)) (x_tp3 pStr pInt pInt (fun (b : (Unit × (((Unit × (Unit × (Unit × Unit))) × (Int × (List Int))) × (((Unit × (Unit × (Unit × Unit))) × (Int × (List Int))) × Unit)))) => x306) (fun (b : (Unit × (((Unit × (Unit × (Unit × Unit))) × (Int × (List Int))) × (((Unit × (Unit × (Unit × Unit))) × (Int × (List Int))) × Unit)))) => b.2.1.2.1) (fun (b : (Unit × (((Unit × (Unit × (Unit × Unit))) × (Int × (List Int))) × (((Unit × (Unit × (Unit × Unit))) × (Int × (List Int))) × Unit)))) => b.2.2.1.2.1) (pa_kd (a_cons (x_var (p := pStr x306) 6) (fun _ => a_cons (x_kd (E := fun (b_ : ((Unit × (Unit × (Unit × Unit))) × (Int × (List Int)))) => pInt b_.2.1) (x_OF_f (kk := 1) (E1 := (oL pInt)) (E2 := pInt) (s1 := fun (_ : Unit) (_ : (Unit × (Unit × Unit))) => b307.1.2.2.2) (v1 := v1) k_l_next (hr.mono (by decide)) g_l_next F_l_next.kp b_l_next 1 (x_var (p := pV v1) 0) (fun _ => x_kd (E := fun (b_ : (Unit × (Unit × Unit))) => pInt (max (1 : Int) (a3 + x301))) (x_max2 m_max (x_int (i := 1)) (fun _ => x_kd (E := fun (b_ : (Unit × Unit)) => pInt (a3 + x301)) (x_add (x_var (p := pInt a3) 2) (fun _ => x_var (p := pInt x301) 5))))) (fun _ _ => rfl))) (fun _ => a_cons (x_kd (E := fun (b_ : ((Unit × (Unit × (Unit × Unit))) × (Int × (List Int)))) => pInt b_.2.1) (x_OF_f (kk := 1) (E1 := (oL pInt)) (E2 := pInt) (v1 := v1) k_l_next (hr.mono (by decide)) g_l_next F_l_next.kp b_l_next 1 (x_var (p := pV v1) 0) (fun _ => x_kd (E := fun (b_ : (Unit × (Unit × Unit))) => pInt (max (1 : Int) (a3 + x301))) (x_max2 m_max (x_int (i := 1)) (fun _ => x_kd (E := fun (b_ : (Unit × Unit)) => pInt (a3 + x301)) (x_add (x_var (p := pInt a3) 2) (fun _ => x_var (p := pInt x301) 5))))) (fun _ _ => rfl))) (fun _ => a_nil))))))) (fun _ => rfl) (fun _ _ => rfl)) fun (b310 : (Unit × (Unit × (((Unit × (Unit × (Unit × Unit))) × (Int × (List Int))) × (((Unit × (Unit × (Unit × Unit))) × (Int × (List Int))) × Unit))))) => s_end (((s300.1) ++ [(x306, b310.2.2.1.2.1, b310.2.2.2.1.2.1)]), b310.2.2.2.1.2.2) rfl ⟨rfl, rfl, rfl, rfl, rfl, trivial⟩ (List.Sublist.refl _)))) fun b299 s302 => s_T (T := some (s302.1, s302.2)) (s_retV 0 (P := (fun (r : (List (Str × Int × Int)) × (List Int)) => [⟨v1, (oL pInt) r.2, some 0⟩])) (Ro := (fun (r : (List (Str × Int × Int)) × (List Int)) => (oL (pT3 pStr pInt pInt)) r.1)) (ι := id) (rv := fun _ => (s302.1, s302.2)) (fun _ _ _ h => h) (x_var (p := pV v298) 4) (fun _ => rfl) (fun _ => List.Sublist.refl _))))) (by unfold M_l_good_steps; rfl)
end
end My
end
section
set_option Elab.async false
set_option linter.all false
set_option maxRecDepth 100000
set_option maxHeartbeats 4000000
set_option pp.maxSteps 200
namespace My
open PySem PySem.Spec PyProof.Rows L2 L3
section
variable {P : Program} {w : World} {K : PySem.W.Frag} {mg : Str → Option Value} {base : Heap}
theorem sc_l_bad_step : FnScope ["_law_stream_here", "_law_step", "_law_own", "_law_bad", "_law_way"] ["_law_stream_here", "_law_step", "_law_own"] (defScope (top 48)) := ⟨rfl, rfl, rfl, by decide +kernel, rfl, by decide +kernel, by decide +kernel⟩
theorem ok_l_bad_step {f : Addr} {fd : FuncData} (C : Ev P K mg) (FD : FnP K "_law_bad_step" (top 48) f fd)   : FnOk P w K mg base CX0 2 f fd ["_law_stream_here", "_law_step", "_law_own"] (Sp_OFF_f (oL pInt) (pT3 pStr pInt pInt) pInt M_l_bad_step (pT3 pStr pInt pInt)) := by
  obtain ⟨f_l_next, fd_l_next, F_l_next, g_l_next⟩ := C.f_l_next
  have k_l_next := ok_l_next (P := P) (w := w) (base := base) C F_l_next
  have b_l_next : Binds K fd_l_next ["_law_stream_here", "_law_size"] [] := F_l_next.bindsN fun _ _ _ _ _ _ us hl => match us, hl with | [_, _], _ => rfl
  refine fn_OFF_f FD sc_l_bad_step rfl fun cdv A outer s H E hr v1 G1 a1 a2 a3 => ?_
  exact s_is (s_T (T := (M_l_next a1 (3 : Int)).bind fun r311 => (M_l_next (r311.2) (6 : Int)).bind fun r312 => (atI ([a3, ((a3 + (1 : Int)) + (r311.1)), (-(1 : Int)), (-a3), ((-a3) - (1 : Int)), ((10 : Int) ^ (6 : Int).toNat)]) (r312.1)).bind fun x313 => (some (x313 : Int)).bind fun x314 => (M_l_next (r312.2) (3 : Int)).bind fun r316 => (some (r316.1 : Int)).bind fun x317 => if (decide (x317 = (0 : Int))) = true then some ((a2.1, x314, a2.2.2), r316.2) else if (decide (x317 = (1 : Int))) = true then some ((a2.1, a2.2.1, x314), r316.2) else some ((a2.1, x314, x314), r316.2)) (s_let (i := 3) pInt sc_l_bad_step.nd (x_kd (E := fun (b_ : (((Unit × (((Unit × Unit) × ((Unit × Unit) × (Int × (List Int)))) × (Unit × (Unit × ((Unit × Unit) × ((Unit × Unit) × Unit)))))) × ((Unit × Unit) × (Int × (List Int)))) × Int)) => pInt b_.2) (x_ixL (Ee := pInt) (x_kd (E := fun (b_ : (Unit × (((Unit × Unit) × ((Unit × Unit) × (Int × (List Int)))) × (Unit × (Unit × ((Unit × Unit) × ((Unit × Unit) × Unit))))))) => (pL pInt) ([a3, ((a3 + (1 : Int)) + (b_.2.1.2.2.1)), (-(1 : Int)), (-a3), ((-a3) - (1 : Int)), ((10 : Int) ^ (6 : Int).toNat)])) (x_frz (o_kd (E := fun (b_ : (Unit × (((Unit × Unit) × ((Unit × Unit) × (Int × (List Int)))) × (Unit × (Unit × ((Unit × Unit) × ((Unit × Unit) × Unit))))))) => (oL pInt) ([a3, ((a3 + (1 : Int)) + (b_.2.1.2.2.1)), (-(1 : Int)), (-a3), ((-a3) - (1 : Int)), ((10 : Int) ^ (6 : Int).toNat)])) (x_disp pInt (fun _ => [_, _, _, _, _, _]) (a_cons (x_var (p := pInt a3) 2) (fun _ => a_cons (x_kd (E := fun (b_ : ((Unit × Unit) × ((Unit × Unit) × (Int × (List Int))))) => pInt ((a3 + (1 : Int)) + (b_.2.2.1))) (x_add (x_kd (E := fun (b_ : (Unit × Unit)) => pInt (a3 + (1 : Int))) (x_add (x_var (p := pInt a3) 2) (fun _ => x_int (i := 1)))) (fun _ => x_kd (E := fun (b_ : ((Unit × Unit) × (Int × (List Int)))) => pInt b_.2.1) (x_OF_f (kk := 1) (E1 := (oL pInt)) (E2 := pInt) (s1 := fun (_ : Unit) (_ : Unit) => a1) (v1 := v1) k_l_next (hr.mono (by decide)) g_l_next F_l_next.kp b_l_next 0 (x_var (p := pV v1) 0) (fun _ => x_int (i := 3)) (fun _ _ => rfl))))) (fun _ => a_cons (x_kd (E := fun (b_ : Unit) => pInt (-(1 : Int))) (x_neg (x_int (i := 1)))) (fun _ => a_cons (x_kd (E := fun (b_ : Unit) => pInt (-a3)) (x_neg (x_var (p := pInt a3) 2))) (fun _ => a_cons (x_kd (E := fun (b_ : (Unit × Unit)) => pInt ((-a3) - (1 : Int))) (x_sub (x_kd (E := fun (b_ : Unit) => pInt (-a3)) (x_neg (x_var (p := pInt a3) 2))) (fun _ => x_int (i := 1)))) (fun _ => a_cons (x_kd (E := fun (b_ : (Unit × Unit)) => pInt ((10 : Int) ^ (6 : Int).toNat)) (x_pow (x_int (i := 10)) (fun _ => x_int (i := 6)) (fun _ _ => by decide))) (fun _ => a_nil))))))) (fun _ => rfl) (fun _ => by simp))))) (fun _ => x_kd (E := fun (b_ : ((Unit × Unit) × (Int × (List Int)))) => pInt b_.2.1) (x_OF_f (kk := 1) (E1 := (oL pInt)) (E2 := pInt) (v1 := v1) k_l_next (hr.mono (by decide)) g_l_next F_l_next.kp b_l_next 0 (x_var (p := pV v1) 0) (fun _ => x_int (i := 6)) (fun _ _ => rfl))) (fun _ _ => rdF))) fun (b315 : (((Unit × (((Unit × Unit) × ((Unit × Unit) × (Int × (List Int)))) × (Unit × (Unit × ((Unit × Unit) × ((Unit × Unit) × Unit)))))) × ((Unit × Unit) × (Int × (List Int)))) × Int)) x314 => s_T (T := (M_l_next (b315.1.2.2.2) (3 : Int)).bind fun r316 => (some (r316.1 : Int)).bind fun x317 => if (decide (x317 = (0 : Int))) = true then some ((a2.1, x314, a2.2.2), r316.2) else if (decide (x317 = (1 : Int))) = true then some ((a2.1, a2.2.1, x314), r316.2) else some ((a2.1, x314, x314), r316.2)) (s_let (i := 4) pInt sc_l_bad_step.nd (x_kd (E := fun (b_ : ((Unit × Unit) × (Int × (List Int)))) => pInt b_.2.1) (x_OF_f (kk := 1) (E1 := (oL pInt)) (E2 := pInt) (s1 := fun (_ : Unit) (_ : Unit) => b315.1.2.2.2) (v1 := v1) k_l_next (hr.mono (by decide)) g_l_next F_l_next.kp b_l_next 0 (x_var (p := pV v1) 0) (fun _ => x_int (i := 3)) (fun _ _ => rfl))) fun (b318 : ((Unit × Unit) × (Int × (List Int)))) x317 => s_T (T := if (decide (x317 = (0 : Int))) = true then some ((a2.1, x314, a2.2.2), b318.2.2) else if (decide (x317 = (1 : Int))) = true then some ((a2.1, a2.2.1, x314), b318.2.2) else some ((a2.1, x314, x314), b318.2.2)) (s_ifT (ins_F _) (t_kd (c := fun (b_ : (Unit × Unit)) => (decide (x317 = (0 : Int)))) (t_eqI (x_var (p := pInt x317) 4) (fun _ => x_int (i := 0)))) (fun (b319 : (Unit × Unit)) => s_T (T := some ((a2.1, x314, a2.2.2), b318.2.2)) (s_ret (P := (fun (r : (Str × Int × Int) × (List Int)) => [⟨v1, (oL pInt) r.2, some 0⟩])) (Rp := (fun (r : (Str × Int × Int) × (List Int)) => (pT3 pStr pInt pInt) r.1)) (ι := id) (rv := fun (b : (Unit × (Unit × (Unit × Unit)))) => ((a2.1, x314, a2.2.2), b318.2.2)) (fun _ _ _ h => h) (x_kd (x_kd (E := fun (b_ : (Unit × (Unit × (Unit × Unit)))) => (pT3 pStr pInt pInt) (a2.1, x314, a2.2.2)) (x_tp3 pStr pInt pInt (fun (b : (Unit × (Unit × (Unit × Unit)))) => a2.1) (fun (b : (Unit × (Unit × (Unit × Unit)))) => x314) (fun (b : (Unit × (Unit × (Unit × Unit)))) => a2.2.2) (pa_kd (a_cons (x_kd (E := fun (b_ : Unit) => pStr a2.1) (x_t30 (x_var (p := (pT3 pStr pInt pInt) a2) 1))) (fun _ => a_cons (x_var (p := pInt x314) 3) (fun _ => a_cons (x_kd (E := fun (b_ : Unit) => pInt a2.2.2) (x_t32 (x_var (p := (pT3 pStr pInt pInt) a2) 1))) (fun _ => a_nil)))))))) (fun _ => List.Sublist.refl _))) fun (b319 : (Unit × Unit)) => s_T (T := if (decide (x317 = (1 : Int))) = true then some ((a2.1, a2.2.1, x314), b318.2.2) else some ((a2.1, x314, x314), b318.2.2)) (s_ifT (ins_F _) (t_kd (c := fun (b_ : (Unit × Unit)) => (decide (x317 = (1 : Int)))) (t_eqI (x_var (p := pInt x317) 4) (fun _ => x_int (i := 1)))) (fun (b320 : (Unit × Unit)) => s_T (T := some ((a2.1, a2.2.1, x314), b318.2.2)) (s_ret (P := (fun (r : (Str × Int × Int) × (List Int)) => [⟨v1, (oL pInt) r.2, some 0⟩])) (Rp := (fun (r : (Str × Int × Int) × (List Int)) => (pT3 pStr pInt pInt) r.1)) (ι := id) (rv := fun (b : (Unit × (Unit × (Unit × Unit)))) => ((a2.1, a2.2.1, x314), b318.2.2)) (fun _ _ _ h => h) (x_kd (x_kd (E := fun (b_ : (Unit × (Unit × (Unit × Unit)))) => (pT3 pStr pInt pInt) (a2.1, a2.2.1, x314)) (x_tp3 pStr pInt pInt (fun (b : (Unit × (Unit × (Unit × Unit)))) => a2.1) (fun (b : (Unit × (Unit × (Unit × Unit)))) => a2.2.1) (fun (b : (Unit × (Unit × (Unit × Unit)))) => x314) (pa_kd (a_cons (x_kd (E := fun (b_ : Unit) => pStr a2.1) (x_t30 (x_var (p := (pT3 pStr pInt pInt) a2) 1))) (fun _ => a_cons (x_kd (E := fun (b_ : Unit) => pInt a2.2.1) (x_t31 (x_var (p := (pT3 pStr pInt pInt) a2) 1))) (fun _ => a_cons (x_var (p := pInt x314) 3) (fun _ => a_nil)))))))) (fun _ => List.Sublist.refl _))) fun (b320 : (Unit × Unit)) => s_T (T := some ((a2.1, x314, x314), b318.2.2)) (s_ret (P := (fun (r : (Str × Int × Int) × (List Int)) => [⟨v1, (oL pInt) r.2, some 0⟩])) (Rp := (fun (r : (Str × Int × Int) × (List Int)) => (pT3 pStr pInt pInt) r.1)) (ι := id) (rv := fun (b : (Unit × (Unit × (Unit × Unit)))) => ((a2.1, x314, x314), b318.2.2)) (fun _ _ _ h => h) (x_kd (x_kd (E := fun (b_ : (Unit × (Unit × (Unit × Unit)))) => (pT3 pStr pInt pInt) (a2.1, x314, x314)) (x_tp3 pStr pInt pInt (fun (b : (Unit × (Unit × (Unit × Unit)))) => a2.1) (fun (b : (Unit × (Unit × (Unit × Unit)))) => x314) (fun (b : (Unit × (Unit × (Unit × Unit)))) => x314) (pa_kd (a_cons (x_kd (E := fun (b_ : Unit) => pStr a2.1) (x_t30 (x_var (p := (pT3 pStr pInt pInt) a2) 1))) (fun _ => a_cons (x_var (p := pInt x314) 3) (fun _ => a_cons (x_var (p := pInt x314) 3) (fun _ => a_nil)))))))) (fun _ => List.Sublist.refl _))))))) (by unfold M_l_bad_step; rfl)
end
end My
end
section
set_option Elab.async false
set_option linter.all false
set_option maxRecDepth 100000
set_option maxHeartbeats 4000000
set_option pp.maxSteps 200
namespace My
open PySem PySem.Spec PyProof.Rows L2 L3
section
variable {P : Program} {w : World} {K : PySem.W.Frag} {mg : Str → Option Value} {base : Heap}
theorem sc_l_same_boxes : FnScope ["_law_told", "_law_expected", "_law_k"] ["_law_told", "_law_expected"] (defScope (top 49)) := ⟨rfl, rfl, rfl, by decide +kernel, rfl, by decide +kernel, by decide +kernel⟩
theorem ok_l_same_boxes {f : Addr} {fd : FuncData} (C : Ev P K mg) (FD : FnP K "_law_same_boxes" (top 49) f fd)   : FnOk P w K mg base CX0 4 f fd ["_law_told", "_law_expected"] (Sp_FF_f (pL (pM (κ := Str) (pL pInt))) (pL (pM (κ := Str) (pL pInt))) M_l_same_boxes pBl) := by
  have m_isinstance := C.m_isinstance
  have m_len := C.m_len
  have m_list := C.m_list
  have m_range := C.m_range
  obtain ⟨f_l_same_sides, fd_l_same_sides, F_l_same_sides, g_l_same_sides⟩ := C.f_l_same_sides
  have k_l_same_sides := ok_l_same_sides (P := P) (w := w) (base := base) C F_l_same_sides
  have b_l_same_sides : Binds K fd_l_same_sides ["_law_actual", "_law_expected"] [] := F_l_same_sides.bindsN fun _ _ _ _ _ _ us hl => match us, hl with | [_, _], _ => rfl
  refine fn_FF_f FD sc_l_same_boxes rfl fun cdv A outer s H E hr  a1 a2 => ?_
  exact s_is (s_T (T := if ((!true) || (!decide ((a1.length : Int) = (a2.length : Int)))) = true then some false else grd (rg (a2.length : Int) = true) ((forL (rngL 0 (a2.length : Int).toNat) (() : Unit) fun x324 s323 => (atI a1 x324).bind fun x326 => (atI a2 x324).bind fun x327 => (M_l_same_sides x326 x327).bind fun r328 => if (!r328) = true then inB (some (Tm.rt false)) else some (Bo.nx ())).bind (boK (fun s325 => some true) id))) (s_ifT (ins_F _) (t_kd (c := fun (b_ : Unit) => ((!true) || (!decide ((a1.length : Int) = (a2.length : Int))))) (PW.pt (w_or (t_totV (!true) () (fun _ => rfl) (by exact (t_kd (c := fun (b_ : Unit) => (!true)) (t_not (t_kd (c := fun (b_ : Unit) => true) (t_val (x_kd (E := fun (b_ : Unit) => pBl true) (x_isi (cn := "list") (fun _ => "list") (fun _ => true) m_isinstance m_list (y_var (p := (pL (pM (κ := Str) (pL pInt))) a1) 0) (fun _ => tyL) (fun _ => by decide +kernel) (by decide +kernel))))))))) (w_or1 (t_totV (!decide ((a1.length : Int) = (a2.length : Int))) ((), ()) (fun _ => rfl) (by exact (t_kd (c := fun (b_ : (Unit × Unit)) => (!decide ((a1.length : Int) = (a2.length : Int)))) (t_neI (x_kd (E := fun (b_ : Unit) => pInt (a1.length : Int)) (x_lenL (Ee := (pM (κ := Str) (pL pInt))) m_len (y_var (p := (pL (pM (κ := Str) (pL pInt))) a1) 0) (fun _ => rdF))) (fun _ => x_kd (E := fun (b_ : Unit) => pInt (a2.length : Int)) (x_lenL (Ee := (pM (κ := Str) (pL pInt))) m_len (y_var (p := (pL (pM (κ := Str) (pL pInt))) a2) 1) (fun _ => rdF))))))))))) (fun (b321 : Unit) => s_T (T := some false) (s_ret (P := (fun _ => [])) (Rp := pBl) (ι := id) (rv := fun (b : Unit) => false) (fun _ _ _ h => h) x_bl (fun _ => List.Sublist.refl _))) fun (b321 : Unit) => s_T (T := grd (rg (a2.length : Int) = true) ((forL (rngL 0 (a2.length : Int).toNat) (() : Unit) fun x324 s323 => (atI a1 x324).bind fun x326 => (atI a2 x324).bind fun x327 => (M_l_same_sides x326 x327).bind fun r328 => if (!r328) = true then inB (some (Tm.rt false)) else some (Bo.nx ())).bind (boK (fun s325 => some true) id))) (s_for PassesOwn.never (fun (b_ : Unit) (s_ : Unit) => ([some ((pL (pM (κ := Str) (pL pInt))) a1), some ((pL (pM (κ := Str) (pL pInt))) a2), none], [])) (fun (b_ : Unit) => ()) (ι := id) (R := (RF ⟨H, []⟩ (fun _ => []) pBl)) (i_rng1 m_range (x_kd (E := fun (b_ : Unit) => pInt (a2.length : Int)) (x_lenL (Ee := (pM (κ := Str) (pL pInt))) m_len (x_var (p := (pL (pM (κ := Str) (pL pInt))) a2) 1) (fun _ => rdF)))) (pg_name (i := 2) sc_l_same_boxes.nd rfl (by first | exact .inl rfl | exact .inr rfl)) (tg_name 2) (fun _ => ⟨rfl, rfl, trivial⟩) (fun _ => List.Sublist.refl _) (fun b322 x324 s323 => s_T (T := (atI a1 x324).bind fun x326 => (atI a2 x324).bind fun x327 => (M_l_same_sides x326 x327).bind fun r328 => if (!r328) = true then inB (some (Tm.rt false)) else some (Bo.nx ())) (s_ifB ins_T (t_kd (c := fun (b_ : ((((Unit × Unit) × (List (Str × List Int))) × ((Unit × Unit) × (List (Str × List Int)))) × Bool)) => (!b_.2)) (t_not (t_kd (c := fun (b_ : ((((Unit × Unit) × (List (Str × List Int))) × ((Unit × Unit) × (List (Str × List Int)))) × Bool)) => b_.2) (t_val (x_kd (E := fun (b_ : ((((Unit × Unit) × (List (Str × List Int))) × ((Unit × Unit) × (List (Str × List Int)))) × Bool)) => pBl b_.2) (x_FF_f (kk := 3) (E1 := (pM (κ := Str) (pL pInt))) (E2 := (pM (κ := Str) (pL pInt))) k_l_same_sides (hr.mono (by decide)) g_l_same_sides F_l_same_sides.kp b_l_same_sides (x_kd (E := fun (b_ : ((Unit × Unit) × (List (Str × List Int)))) => (pM (κ := Str) (pL pInt)) b_.2) (x_ixL (Ee := (pM (κ := Str) (pL pInt))) (x_var (p := (pL (pM (κ := Str) (pL pInt))) a1) 0) (fun _ => x_var (p := pInt x324) 2) (fun _ _ => rdF))) (fun _ => x_kd (E := fun (b_ : ((Unit × Unit) × (List (Str × List Int)))) => (pM (κ := Str) (pL pInt)) b_.2) (x_ixL (Ee := (pM (κ := Str) (pL pInt))) (x_var (p := (pL (pM (κ := Str) (pL pInt))) a2) 1) (fun _ => x_var (p := pInt x324) 2) (fun _ _ => rdF))))))))) (fun (b329 : ((((Unit × Unit) × (List (Str × List Int))) × ((Unit × Unit) × (List (Str × List Int)))) × Bool)) => s_T (T := some (Tm.rt false)) (s_ret (P := (fun _ => [])) (Rp := pBl) (ι := Tm.rt) (rv := fun (b : Unit) => false) (fun _ _ _ h => h) x_bl (fun _ => List.Sublist.refl _))) fun (b329 : ((((Unit × Unit) × (List (Str × List Int))) × ((Unit × Unit) × (List (Str × List Int)))) × Bool)) => s_endB () ⟨rfl, rfl, trivial⟩ (List.Sublist.refl _))) (fun b322 s325 => s_T (T := some true) (s_ret (P := (fun _ => [])) (Rp := pBl) (ι := id) (rv := fun (b : Unit) => true) (fun _ _ _ h => h) x_bl (fun _ => List.Sublist.refl _))) (fun _ _ _ h => h)))) (by unfold M_l_same_boxes; rfl)
end
end My
end
section
set_option Elab.async false
set_option linter.all false
set_option maxRecDepth 100000
set_option maxHeartbeats 4000000
set_option pp.maxSteps 200
namespace My
open PySem PySem.Spec PyProof.Rows L2 L3
section
variable {P : Program} {w : World} {K : PySem.W.Frag} {mg : Str → Option Value} {base : Heap}
theorem sc_l_all_new : FnScope ["_law_told", "_law_expected", "_law_k", "_law_name"] ["_law_told", "_law_expected"] (defScope (top 50)) := ⟨rfl, rfl, rfl, by decide +kernel, rfl, by decide +kernel, by decide +kernel⟩
theorem ok_l_all_new {f : Addr} {fd : FuncData} (C : Ev P K mg) (FD : FnP K "_law_all_new" (top 50) f fd)   : FnOk P w K mg base CX0 1 f fd ["_law_told", "_law_expected"] (Sp_OF_f (oLO (oMO (κ := Str) (oL pInt))) (pL (pM (κ := Str) (pL pInt))) M_l_all_new pBl) := by
  have m_len := C.m_len
  have m_range := C.m_range
  refine fn_OF_f FD sc_l_all_new rfl fun cdv A outer s H E hr v1 G1 a1 a2 => ?_
  exact s_is (s_T (T := grd (rg (a2.length : Int) = true) ((forS (rngL 0 (a2.length : Int).toNat) (a1 : (List (List (Str × List Int)))) fun x332 s331 => (atI a2 x332).bind fun x348 => (forS (x348.map Prod.fst) (s331 : (List (List (Str × List Int)))) fun x351 s350 => (ixN s350.length x332).bind fun m353 => (s350[m353]?).bind fun x354 => (dget x354 x351).bind fun x355 => grd (x355.length < sizeLine) (some (s350.set m353 (dput x354 x351 (x355 ++ [((10 : Int) ^ (13 : Int).toNat)]))))).bind fun s352 => some s352).bind fun s333 => grd (rg (a2.length : Int) = true) ((forL (rngL 0 (a2.length : Int).toNat) (() : Unit) fun x336 s335 => (atI a2 x336).bind fun x338 => (forL (x338.map Prod.fst) (() : Unit) fun x341 s340 => (atI s333 x336).bind fun x343 => (dget x343 x341).bind fun x344 => (atI a2 x336).bind fun x345 => (dget x345 x341).bind fun x346 => grd (x346.length + ([((10 : Int) ^ (13 : Int).toNat)]).length ≤ sizeLine) (if (!decide (x344 = (x346 ++ ([((10 : Int) ^ (13 : Int).toNat)])))) = true then inB (some (Tm.rt (false, s333))) else some (Bo.nx ()))).bind (boK (fun s342 => some (Bo.nx ())) (fun r => Bo.tm (Tm.rt r)))).bind (boK (fun s337 => some (true, s333)) id)))) (s_forS PassesOwn.never (fun (b_ : Unit) (s_ : (List (List (Str × List Int)))) => ([some (pV v1), some ((pL (pM (κ := Str) (pL pInt))) a2), none, none], [⟨v1, (oLO (oMO (κ := Str) (oL pInt))) s_, some 0⟩])) (fun (b_ : Unit) => a1) (i_rng1 m_range (x_kd (E := fun (b_ : Unit) => pInt (a2.length : Int)) (x_lenL (Ee := (pM (κ := Str) (pL pInt))) m_len (x_var (p := (pL (pM (κ := Str) (pL pInt))) a2) 1) (fun _ => rdF)))) (pg_name (i := 2) sc_l_all_new.nd rfl (by first | exact .inl rfl | exact .inr rfl)) (tg_name 2) (fun _ => ⟨rfl, rfl, trivial⟩) (fun _ => List.Sublist.refl _) (fun b330 x332 s331 => s_T (T := (atI a2 x332).bind fun x348 => (forS (x348.map Prod.fst) (s331 : (List (List (Str × List Int)))) fun x351 s350 => (ixN s350.length x332).bind fun m353 => (s350[m353]?).bind fun x354 => (dget x354 x351).bind fun x355 => grd (x355.length < sizeLine) (some (s350.set m353 (dput x354 x351 (x355 ++ [((10 : Int) ^ (13 : Int).toNat)]))))).bind fun s352 => some s352) (s_forS PassesOwn.never (fun (b_ : ((Unit × Unit) × (List (Str × List Int)))) (s_ : (List (List (Str × List Int)))) => ([some (pV v1), some ((pL (pM (κ := Str) (pL pInt))) a2), some (pInt x332), none], [⟨v1, (oLO (oMO (κ := Str) (oL pInt))) s_, some 0⟩])) (fun (b_ : ((Unit × Unit) × (List (Str × List Int)))) => s331) (i_mkeys (κ := Str) (x_kd (E := fun (b_ : ((Unit × Unit) × (List (Str × List Int)))) => (pM (κ := Str) (pL pInt)) b_.2) (x_ixL (Ee := (pM (κ := Str) (pL pInt))) (x_var (p := (pL (pM (κ := Str) (pL pInt))) a2) 1) (fun _ => x_var (p := pInt x332) 2) (fun _ _ => rdF)))) (pg_name (i := 3) sc_l_all_new.nd rfl (by first | exact .inl rfl | exact .inr rfl)) (tg_name 3) (fun _ => ⟨rfl, rfl, rfl, trivial⟩) (fun _ => List.Sublist.refl _) (fun b349 x351 s350 => s_T (T := (ixN s350.length x332).bind fun m353 => (s350[m353]?).bind fun x354 => (dget x354 x351).bind fun x355 => grd (x355.length < sizeLine) (some (s350.set m353 (dput x354 x351 (x355 ++ [((10 : Int) ^ (13 : Int).toNat)]))))) (s_expr (x_appF 0 (f_key (κ := Str) (D := (oL pInt)) 0 hr.units (f_ix (D := (oMO (κ := Str) (oL pInt))) 0 (f_var (D := (oLO (oMO (κ := Str) (oL pInt)))) (x_var (p := pV v1) 0)) (fun _ => x_var (p := pInt x332) 2)) (fun _ => x_var (p := pStr x351) 3)) (fun _ => x_kd (E := fun (b_ : (Unit × Unit)) => pInt ((10 : Int) ^ (13 : Int).toNat)) (x_pow (x_int (i := 10)) (fun _ => x_int (i := 13)) (fun _ _ => by decide)))) fun (b356 : (((((Unit × Unit) × (Nat × (List (Str × List Int)))) × Unit) × (List Int)) × (Unit × Unit))) => s_end (s350.set b356.1.1.1.2.1 (dput b356.1.1.1.2.2 x351 (b356.1.2 ++ [((10 : Int) ^ (13 : Int).toNat)]))) rfl ⟨rfl, rfl, rfl, trivial⟩ (List.Sublist.refl _))) fun b349 s352 => s_end s352 rfl ⟨rfl, rfl, trivial⟩ (List.Sublist.refl _))) fun b330 s333 => s_T (T := grd (rg (a2.length : Int) = true) ((forL (rngL 0 (a2.length : Int).toNat) (() : Unit) fun x336 s335 => (atI a2 x336).bind fun x338 => (forL (x338.map Prod.fst) (() : Unit) fun x341 s340 => (atI s333 x336).bind fun x343 => (dget x343 x341).bind fun x344 => (atI a2 x336).bind fun x345 => (dget x345 x341).bind fun x346 => grd (x346.length + ([((10 : Int) ^ (13 : Int).toNat)]).length ≤ sizeLine) (if (!decide (x344 = (x346 ++ ([((10 : Int) ^ (13 : Int).toNat)])))) = true then inB (some (Tm.rt (false, s333))) else some (Bo.nx ()))).bind (boK (fun s342 => some (Bo.nx ())) (fun r => Bo.tm (Tm.rt r)))).bind (boK (fun s337 => some (true, s333)) id))) (s_for PassesOwn.never (fun (b_ : Unit) (s_ : Unit) => ([some (pV v1), some ((pL (pM (κ := Str) (pL pInt))) a2), none, none], [⟨v1, (oLO (oMO (κ := Str) (oL pInt))) s333, some 0⟩])) (fun (b_ : Unit) => ()) (ι := id) (R := (RF ⟨H, [G1]⟩ (fun (r : Bool × (List (List (Str × List Int)))) => [⟨v1, (oLO (oMO (κ := Str) (oL pInt))) r.2, some 0⟩]) (fun (r : Bool × (List (List (Str × List Int)))) => pBl r.1))) (i_rng1 m_range (x_kd (E := fun (b_ : Unit) => pInt (a2.length : Int)) (x_lenL (Ee := (pM (κ := Str) (pL pInt))) m_len (x_var (p := (pL (pM (κ := Str) (pL pInt))) a2) 1) (fun _ => rdF)))) (pg_name (i := 2) sc_l_all_new.nd rfl (by first | exact .inl rfl | exact .inr rfl)) (tg_name 2) (fun _ => ⟨rfl, rfl, trivial⟩) (fun _ => List.Sublist.refl _) (fun b334 x336 s335 => s_T (T := (atI a2 x336).bind fun x338 => (forL (x338.map Prod.fst) (() : Unit) fun x341 s340 => (atI s333 x336).bind fun x343 => (dget x343 x341).bind fun x344 => (atI a2 x336).bind fun x345 => (dget x345 x341).bind fun x346 => grd (x346.length + ([((10 : Int) ^ (13 : Int).toNat)]).length ≤ sizeLine) (if (!decide (x344 = (x346 ++ ([((10 : Int) ^ (13 : Int).toNat)])))) = true then inB (some (Tm.rt (false, s333))) else some (Bo.nx ()))).bind (boK (fun s342 => some (Bo.nx ())) (fun r => Bo.tm (Tm.rt r)))) (s_for PassesOwn.never (fun (b_ : ((Unit × Unit) × (List (Str × List Int)))) (s_ : Unit) => ([some (pV v1), some ((pL (pM (κ := Str) (pL pInt))) a2), some (pInt x336), none], [⟨v1, (oLO (oMO (κ := Str) (oL pInt))) s333, some 0⟩])) (fun (b_ : ((Unit × Unit) × (List (Str × List Int)))) => ()) (ι := (fun r => Bo.tm (Tm.rt r))) (R := (RF ⟨H, [G1]⟩ (fun (r : Bool × (List (List (Str × List Int)))) => [⟨v1, (oLO (oMO (κ := Str) (oL pInt))) r.2, some 0⟩]) (fun (r : Bool × (List (List (Str × List Int)))) => pBl r.1))) (i_mkeys (κ := Str) (x_kd (E := fun (b_ : ((Unit × Unit) × (List (Str × List Int)))) => (pM (κ := Str) (pL pInt)) b_.2) (x_ixL (Ee := (pM (κ := Str) (pL pInt))) (x_var (p := (pL (pM (κ := Str) (pL pInt))) a2) 1) (fun _ => x_var (p := pInt x336) 2) (fun _ _ => rdF)))) (pg_name (i := 3) sc_l_all_new.nd rfl (by first | exact .inl rfl | exact .inr rfl)) (tg_name 3) (fun _ => ⟨rfl, rfl, rfl, trivial⟩) (fun _ => List.Sublist.refl _) (fun b339 x341 s340 => s_T (T := (atI s333 x336).bind fun x343 => (dget x343 x341).bind fun x344 => (atI a2 x336).bind fun x345 => (dget x345 x341).bind fun x346 => grd (x346.length + ([((10 : Int) ^ (13 : Int).toNat)]).length ≤ sizeLine) (if (!decide (x344 = (x346 ++ ([((10 : Int) ^ (13 : Int).toNat)])))) = true then inB (some (Tm.rt (false, s333))) else some (Bo.nx ()))) (s_ifB ins_T (t_kd (c := fun (b_ : (((((Unit × Unit) × (List (Str × List Int))) × Unit) × (List Int)) × (((((Unit × Unit) × (List (Str × List Int))) × Unit) × (List Int)) × ((Unit × Unit) × Unit)))) => (!decide (b_.1.2 = (b_.2.1.2 ++ ([((10 : Int) ^ (13 : Int).toNat)]))))) (t_lockG (d := (oLO (oMO (κ := Str) (oL pInt))) s333) 0 0 (by exact t_neL hr.units dtInt (x_kd (E := fun (b_ : ((((Unit × Unit) × (List (Str × List Int))) × Unit) × (List Int))) => (pL pInt) b_.2) (x_dget (κ := Str) (Ee := (pL pInt)) hr.units (x_kd (E := fun (b_ : ((Unit × Unit) × (List (Str × List Int)))) => (pM (κ := Str) (pL pInt)) b_.2) (x_ixL (Ee := (pM (κ := Str) (pL pInt))) (x_var (p := (pL (pM (κ := Str) (pL pInt))) s333) 0) (fun _ => x_var (p := pInt x336) 2) (fun _ _ => rdF))) (fun _ => x_var (p := pStr x341) 3) (fun _ _ => rdMF))) (fun _ => x_kd (E := fun (b_ : (((((Unit × Unit) × (List (Str × List Int))) × Unit) × (List Int)) × ((Unit × Unit) × Unit))) => (pL pInt) (b_.1.2 ++ ([((10 : Int) ^ (13 : Int).toNat)]))) (x_frz (o_kd (E := fun (b_ : (((((Unit × Unit) × (List (Str × List Int))) × Unit) × (List Int)) × ((Unit × Unit) × Unit))) => (oL pInt) (b_.1.2 ++ ([((10 : Int) ^ (13 : Int).toNat)]))) (x_cat (Ee := pInt) (x_kd (E := fun (b_ : ((((Unit × Unit) × (List (Str × List Int))) × Unit) × (List Int))) => (pL pInt) b_.2) (x_dget (κ := Str) (Ee := (pL pInt)) hr.units (x_kd (E := fun (b_ : ((Unit × Unit) × (List (Str × List Int)))) => (pM (κ := Str) (pL pInt)) b_.2) (x_ixL (Ee := (pM (κ := Str) (pL pInt))) (x_var (p := (pL (pM (κ := Str) (pL pInt))) a2) 1) (fun _ => x_var (p := pInt x336) 2) (fun _ _ => rdF))) (fun _ => x_var (p := pStr x341) 3) (fun _ _ => rdMF))) (fun _ => x_kd (E := fun (b_ : ((Unit × Unit) × Unit)) => (pL pInt) ([((10 : Int) ^ (13 : Int).toNat)])) (x_frz (o_kd (E := fun (b_ : ((Unit × Unit) × Unit)) => (oL pInt) ([((10 : Int) ^ (13 : Int).toNat)])) (x_disp pInt (fun _ => [_]) (a_cons (x_kd (E := fun (b_ : (Unit × Unit)) => pInt ((10 : Int) ^ (13 : Int).toNat)) (x_pow (x_int (i := 10)) (fun _ => x_int (i := 13)) (fun _ _ => by decide))) (fun _ => a_nil)) (fun _ => rfl) (fun _ => by simp))))) (fun _ _ => rdF) (fun _ _ => rdF))))) (fun _ _ => rdF) (fun _ _ => rdF)))) (fun (b347 : (((((Unit × Unit) × (List (Str × List Int))) × Unit) × (List Int)) × (((((Unit × Unit) × (List (Str × List Int))) × Unit) × (List Int)) × ((Unit × Unit) × Unit)))) => s_T (T := some (Tm.rt (false, s333))) (s_ret (P := (fun (r : Bool × (List (List (Str × List Int)))) => [⟨v1, (oLO (oMO (κ := Str) (oL pInt))) r.2, some 0⟩])) (Rp := (fun (r : Bool × (List (List (Str × List Int)))) => pBl r.1)) (ι := Tm.rt) (rv := fun (b : Unit) => (false, s333)) (fun _ _ _ h => h) x_bl (fun _ => List.Sublist.refl _))) fun (b347 : (((((Unit × Unit) × (List (Str × List Int))) × Unit) × (List Int)) × (((((Unit × Unit) × (List (Str × List Int))) × Unit) × (List Int)) × ((Unit × Unit) × Unit)))) => s_endB () ⟨rfl, rfl, rfl, trivial⟩ (List.Sublist.refl _))) (fun b339 s342 => s_endB () ⟨rfl, rfl, trivial⟩ (List.Sublist.refl _)) (fun _ _ _ h => h))) (fun b334 s337 => s_T (T := some (true, s333)) (s_ret (P := (fun (r : Bool × (List (List (Str × List Int)))) => [⟨v1, (oLO (oMO (κ := Str) (oL pInt))) r.2, some 0⟩])) (Rp := (fun (r : Bool × (List (List (Str × List Int)))) => pBl r.1)) (ι := id) (rv := fun (b : Unit) => (true, s333)) (fun _ _ _ h => h) x_bl (fun _ => List.Sublist.refl _))) (fun _ _ _ h => h)))) (by unfold M_l_all_new; rfl)
end
end My
end
section
set_option Elab.async false
set_option linter.all false
set_option maxRecDepth 100000
set_option maxHeartbeats 4000000
set_option pp.maxSteps 200
namespace My
open PySem PySem.Spec PyProof.Rows L2 L3
section
variable {P : Program} {w : World} {K : PySem.W.Frag} {mg : Str → Option Value} {base : Heap}
theorem sc_l_carried_out : FnScope ["_law_boxes", "_law_steps", "_law_passed", "_law_given", "_law_expected", "_law_turn", "_law_told", "_law_sides"] ["_law_boxes", "_law_steps"] (defScope (top 51)) := ⟨rfl, rfl, rfl, by decide +kernel, rfl, by decide +kernel, by decide +kernel⟩
theorem ok_l_carried_out {f : Addr} {fd : FuncData} (C : Ev P K mg) (FD : FnP K "_law_carried_out" (top 51) f fd)   : FnOk P w K mg base CX0 5 f fd ["_law_boxes", "_law_steps"] (Sp_FF_f (pL (pM (κ := Str) (pL pInt))) (pL (pT3 pStr pInt pInt)) M_l_carried_out pBl) := by
  have m_list := C.m_list
  have m_range := C.m_range
  obtain ⟨f_l_copied, fd_l_copied, F_l_copied, g_l_copied⟩ := C.f_l_copied
  have k_l_copied := ok_l_copied (P := P) (w := w) (base := base) C F_l_copied
  have b_l_copied : Binds K fd_l_copied ["_law_sides"] [] := F_l_copied.bindsN fun _ _ _ _ _ _ us hl => match us, hl with | [_], _ => rfl
  obtain ⟨f_l_joined, fd_l_joined, F_l_joined, g_l_joined⟩ := C.f_l_joined
  have k_l_joined := ok_l_joined (P := P) (w := w) (base := base) C F_l_joined
  have b_l_joined : Binds K fd_l_joined ["_law_boxes", "_law_steps"] [] := F_l_joined.bindsN fun _ _ _ _ _ _ us hl => match us, hl with | [_, _], _ => rfl
  obtain ⟨f_run_plan, fd_run_plan, F_run_plan, g_run_plan⟩ := C.f_run_plan
  have k_run_plan := ok_run_plan (P := P) (w := w) (base := base) C F_run_plan
  have b_run_plan : Binds K fd_run_plan ["boxes", "steps"] [] := F_run_plan.bindsN fun _ _ _ _ _ _ us hl => match us, hl with | [_, _], _ => rfl
  obtain ⟨f_l_same_boxes, fd_l_same_boxes, F_l_same_boxes, g_l_same_boxes⟩ := C.f_l_same_boxes
  have k_l_same_boxes := ok_l_same_boxes (P := P) (w := w) (base := base) C F_l_same_boxes
  have b_l_same_boxes : Binds K fd_l_same_boxes ["_law_told", "_law_expected"] [] := F_l_same_boxes.bindsN fun _ _ _ _ _ _ us hl => match us, hl with | [_, _], _ => rfl
  obtain ⟨f_l_all_new, fd_l_all_new, F_l_all_new, g_l_all_new⟩ := C.f_l_all_new
  have k_l_all_new := ok_l_all_new (P := P) (w := w) (base := base) C F_l_all_new
  have b_l_all_new : Binds K fd_l_all_new ["_law_told", "_law_expected"] [] := F_l_all_new.bindsN fun _ _ _ _ _ _ us hl => match us, hl with | [_, _], _ => rfl
  refine fn_FF_f FD sc_l_carried_out rfl fun cdv A outer s H E hr  a1 a2 => ?_
  exact s_is (s_T (T := (compM a1 () (fun x358 s360 => if true = true then (M_l_copied x358).bind fun r362 => some (some r362, ()) else some (none, ()))).bind fun r363 => (some (r363.1 : List (List (Str × List Int)))).bind fun x364 => (some (a2 : List (Str × Int × Int))).bind fun x368 => (M_l_joined a1 a2).bind fun r370 => (some (r370 : List (List (Str × List Int)))).bind fun x371 => grd (rg (2 : Int) = true) ((forL (rngL 0 (2 : Int).toNat) (() : Unit) fun x375 s374 => ((M_run_plan x364 x368).bind okx).bind fun r377 => (some (r377 : List (List (Str × List Int)))).bind fun x378 => (M_l_same_boxes x378 x371).bind fun r382 => ((if (!r382) = true then some (true, x378) else (M_l_all_new x378 x371).bind fun r384 => some ((!(r384.1)), r384.2))).bind fun c385 => if c385.1 = true then inB (some (Tm.rt false)) else grd (lokG (deM (κ := Str) (deG (dgL dgInt) (injL injInt) (of_decide_eq_true rfl))).ok x364 a1 = true) (((if (!leqG (deM (κ := Str) (deG (dgL dgInt) (injL injInt) (of_decide_eq_true rfl))).eqv x364 a1) = true then some (true, ()) else grd (okG (dgL (dgT3 dgStr dgInt dgInt)) x368 a2 = true) (some ((!decide (x368 = a2)), ())))).bind fun c387 => if c387.1 = true then inB (some (Tm.rt false)) else some (Bo.nx ()))).bind (boK (fun s376 => some true) id))) (s_letOA (i := 2) (oL (pM (κ := Str) (pL pInt))) (a_lc (i := 2) (own := [("_law_sides", 7)]) (C := fun (b_ : Unit) (s_ : Unit) => []) (s0 := fun (b_ : Unit) => ()) (s2 := fun (b_ : Unit) (x_ : List (Str × List Int)) (s_ : Unit) (c_ : Unit) => ()) (s3 := fun (b_ : Unit) (x_ : List (Str × List Int)) (s_ : Unit) (c_ : Unit) (d_ : (Unit × (List (Str × List Int)))) => ()) (Ex := (pM (κ := Str) (pL pInt))) (Ee := (pM (κ := Str) (pL pInt))) (δ := (List (Str × List Int))) (y := fun (b_ : Unit) (x_ : List (Str × List Int)) (s_ : Unit) (c_ : Unit) (d_ : (Unit × (List (Str × List Int)))) => d_.2) (T2 := fun (b_ : Unit) (x_ : List (Str × List Int)) (s_ : Unit) (c_ : Unit) => (M_l_copied x_).bind fun r362 => some (some r362, ())) (c := fun (b_ : Unit) (x_ : List (Str × List Int)) (s_ : Unit) (c_ : Unit) => true) (f := fun (b_ : Unit) (x_ : List (Str × List Int)) (s_ : Unit) => if true = true then (M_l_copied x_).bind fun r362 => some (some r362, ()) else some (none, ())) sc_l_carried_out.nd (i_list (x_var (p := (pL (pM (κ := Str) (pL pInt))) a1) 0)) (blkOk_by (own := [("_law_sides", 7)]) (N := ["_law_boxes", "_law_steps", "_law_passed", "_law_given", "_law_expected", "_law_turn", "_law_told", "_law_sides"]) (sc := defScope (top 51)) (by decide +kernel)) (fun _ _ _ _ _ => pg_name (i := 7) sc_l_carried_out.nd rfl (by first | exact .inl rfl | exact .inr rfl)) (tw_name 7) (fun _ => rfl) (by exact fun q361 _ _ _ _ _ b357 x358 s360 => pts_T) (by exact fun q361 _ _ _ _ _ b357 x358 s360 _ => x_out (x_kd (E := fun (b_ : (Unit × (List (Str × List Int)))) => (pM (κ := Str) (pL pInt)) b_.2) (x_frz (o_kd (E := fun (b_ : (Unit × (List (Str × List Int)))) => (oM (κ := Str) (pL pInt)) b_.2) (x_F_o (kk := 1) (E1 := (pM (κ := Str) (pL pInt))) k_l_copied (hr.mono (by decide)) g_l_copied F_l_copied.kp b_l_copied (x_var (p := (pM (κ := Str) (pL pInt)) x358) 7)))))) (sw_true rfl rfl rfl (by decide +kernel))) fun (b365 : (Unit × ((List (List (Str × List Int))) × Unit))) x364 v367 => s_frz (i := 2) (c := ⟨v367, (oL (pM (κ := Str) (pL pInt))) x364, none⟩) 0 (s_T (T := (some (a2 : List (Str × Int × Int))).bind fun x368 => (M_l_joined a1 a2).bind fun r370 => (some (r370 : List (List (Str × List Int)))).bind fun x371 => grd (rg (2 : Int) = true) ((forL (rngL 0 (2 : Int).toNat) (() : Unit) fun x375 s374 => ((M_run_plan x364 x368).bind okx).bind fun r377 => (some (r377 : List (List (Str × List Int)))).bind fun x378 => (M_l_same_boxes x378 x371).bind fun r382 => ((if (!r382) = true then some (true, x378) else (M_l_all_new x378 x371).bind fun r384 => some ((!(r384.1)), r384.2))).bind fun c385 => if c385.1 = true then inB (some (Tm.rt false)) else grd (lokG (deM (κ := Str) (deG (dgL dgInt) (injL injInt) (of_decide_eq_true rfl))).ok x364 a1 = true) (((if (!leqG (deM (κ := Str) (deG (dgL dgInt) (injL injInt) (of_decide_eq_true rfl))).eqv x364 a1) = true then some (true, ()) else grd (okG (dgL (dgT3 dgStr dgInt dgInt)) x368 a2 = true) (some ((!decide (x368 = a2)), ())))).bind fun c387 => if c387.1 = true then inB (some (Tm.rt false)) else some (Bo.nx ()))).bind (boK (fun s376 => some true) id))) (s_let (i := 3) (pL (pT3 pStr pInt pInt)) sc_l_carried_out.nd (x_kd (E := fun (b_ : Unit) => (pL (pT3 pStr pInt pInt)) a2) (x_frz (o_kd (E := fun (b_ : Unit) => (oL (pT3 pStr pInt pInt)) a2) (x_listL (Ee := (pT3 pStr pInt pInt)) m_list (x_var (p := (pL (pT3 pStr pInt pInt)) a2) 1) (fun _ => rdF))))) fun (b369 : Unit) x368 => s_T (T := (M_l_joined a1 a2).bind fun r370 => (some (r370 : List (List (Str × List Int)))).bind fun x371 => grd (rg (2 : Int) = true) ((forL (rngL 0 (2 : Int).toNat) (() : Unit) fun x375 s374 => ((M_run_plan x364 x368).bind okx).bind fun r377 => (some (r377 : List (List (Str × List Int)))).bind fun x378 => (M_l_same_boxes x378 x371).bind fun r382 => ((if (!r382) = true then some (true, x378) else (M_l_all_new x378 x371).bind fun r384 => some ((!(r384.1)), r384.2))).bind fun c385 => if c385.1 = true then inB (some (Tm.rt false)) else grd (lokG (deM (κ := Str) (deG (dgL dgInt) (injL injInt) (of_decide_eq_true rfl))).ok x364 a1 = true) (((if (!leqG (deM (κ := Str) (deG (dgL dgInt) (injL injInt) (of_decide_eq_true rfl))).eqv x364 a1) = true then some (true, ()) else grd (okG (dgL (dgT3 dgStr dgInt dgInt)) x368 a2 = true) (some ((!decide (x368 = a2)), ())))).bind fun c387 => if c387.1 = true then inB (some (Tm.rt false)) else some (Bo.nx ()))).bind (boK (fun s376 => some true) id))) (s_let (i := 4) (pL (pM (κ := Str) (pL pInt))) sc_l_carried_out.nd (x_kd (E := fun (b_ : ((Unit × Unit) × (List (List (Str × List Int))))) => (pL (pM (κ := Str) (pL pInt))) b_.2) (x_frz (o_kd (E := fun (b_ : ((Unit × Unit) × (List (List (Str × List Int))))) => (oL (pM (κ := Str) (pL pInt))) b_.2) (x_FF_o (kk := 2) (E1 := (pL (pM (κ := Str) (pL pInt)))) (E2 := (pL (pT3 pStr pInt pInt))) k_l_joined (hr.mono (by decide)) g_l_joined F_l_joined.kp b_l_joined (x_var (p := (pL (pM (κ := Str) (pL pInt))) a1) 0) (fun _ => x_var (p := (pL (pT3 pStr pInt pInt)) a2) 1))))) fun (b372 : ((Unit × Unit) × (List (List (Str × List Int))))) x371 => s_T (T := grd (rg (2 : Int) = true) ((forL (rngL 0 (2 : Int).toNat) (() : Unit) fun x375 s374 => ((M_run_plan x364 x368).bind okx).bind fun r377 => (some (r377 : List (List (Str × List Int)))).bind fun x378 => (M_l_same_boxes x378 x371).bind fun r382 => ((if (!r382) = true then some (true, x378) else (M_l_all_new x378 x371).bind fun r384 => some ((!(r384.1)), r384.2))).bind fun c385 => if c385.1 = true then inB (some (Tm.rt false)) else grd (lokG (deM (κ := Str) (deG (dgL dgInt) (injL injInt) (of_decide_eq_true rfl))).ok x364 a1 = true) (((if (!leqG (deM (κ := Str) (deG (dgL dgInt) (injL injInt) (of_decide_eq_true rfl))).eqv x364 a1) = true then some (true, ()) else grd (okG (dgL (dgT3 dgStr dgInt dgInt)) x368 a2 = true) (some ((!decide (x368 = a2)), ())))).bind fun c387 => if c387.1 = true then inB (some (Tm.rt false)) else some (Bo.nx ()))).bind (boK (fun s376 => some true) id))) (s_for PassesOwn.never (fun (b_ : Unit) (s_ : Unit) => ([some ((pL (pM (κ := Str) (pL pInt))) a1), some ((pL (pT3 pStr pInt pInt)) a2), some ((pL (pM (κ := Str) (pL pInt))) x364), some ((pL (pT3 pStr pInt pInt)) x368), some ((pL (pM (κ := Str) (pL pInt))) x371), none, none, none], [])) (fun (b_ : Unit) => ()) (ι := id) (R := (RF ⟨H, []⟩ (fun _ => []) pBl)) (i_rng1 m_range (x_int (i := 2))) (pg_name (i := 5) sc_l_carried_out.nd rfl (by first | exact .inl rfl | exact .inr rfl)) (tg_name 5) (fun _ => ⟨rfl, rfl, rfl, rfl, rfl, trivial⟩) (fun _ => List.Sublist.refl _) (fun b373 x375 s374 => s_T (T := ((M_run_plan x364 x368).bind okx).bind fun r377 => (some (r377 : List (List (Str × List Int)))).bind fun x378 => (M_l_same_boxes x378 x371).bind fun r382 => ((if (!r382) = true then some (true, x378) else (M_l_all_new x378 x371).bind fun r384 => some ((!(r384.1)), r384.2))).bind fun c385 => if c385.1 = true then inB (some (Tm.rt false)) else grd (lokG (deM (κ := Str) (deG (dgL dgInt) (injL injInt) (of_decide_eq_true rfl))).ok x364 a1 = true) (((if (!leqG (deM (κ := Str) (deG (dgL dgInt) (injL injInt) (of_decide_eq_true rfl))).eqv x364 a1) = true then some (true, ()) else grd (okG (dgL (dgT3 dgStr dgInt dgInt)) x368 a2 = true) (some ((!decide (x368 = a2)), ())))).bind fun c387 => if c387.1 = true then inB (some (Tm.rt false)) else some (Bo.nx ()))) (s_letO (i := 6) (oLO (oMO (κ := Str) (oL pInt))) sc_l_carried_out.nd (o_kd (E := fun (b_ : ((Unit × (Unit × Unit)) × (List (List (Str × List Int))))) => (oLO (oMO (κ := Str) (oL pInt))) b_.2) (x_Zo (kk := 4) (xs := fun (b : (Unit × (Unit × Unit))) => (x364, x368)) k_run_plan (hr.mono (by decide)) g_run_plan F_run_plan.kp b_run_plan (a_cons (x_var (p := (pL (pM (κ := Str) (pL pInt))) x364) 2) (fun _ => a_cons (x_var (p := (pL (pT3 pStr pInt pInt)) x368) 3) (fun _ => a_nil))))) fun (b379 : ((Unit × (Unit × Unit)) × (List (List (Str × List Int))))) x378 v381 => s_T (T := (M_l_same_boxes x378 x371).bind fun r382 => ((if (!r382) = true then some (true, x378) else (M_l_all_new x378 x371).bind fun r384 => some ((!(r384.1)), r384.2))).bind fun c385 => if c385.1 = true then inB (some (Tm.rt false)) else grd (lokG (deM (κ := Str) (deG (dgL dgInt) (injL injInt) (of_decide_eq_true rfl))).ok x364 a1 = true) (((if (!leqG (deM (κ := Str) (deG (dgL dgInt) (injL injInt) (of_decide_eq_true rfl))).eqv x364 a1) = true then some (true, ()) else grd (okG (dgL (dgT3 dgStr dgInt dgInt)) x368 a2 = true) (some ((!decide (x368 = a2)), ())))).bind fun c387 => if c387.1 = true then inB (some (Tm.rt false)) else some (Bo.nx ()))) (s_ifB ins_T (t_kd (c := fun (b_ : (((Unit × Unit) × Bool) × (Bool × (List (List (Str × List Int)))))) => b_.2.1) (PW.pt (w_orM (ΔS := fun (b_ : ((Unit × Unit) × Bool)) (s_ : (List (List (Str × List Int)))) => [⟨v381, (oLO (oMO (κ := Str) (oL pInt))) s_, none⟩]) (s1 := fun (b_ : ((Unit × Unit) × Bool)) => x378) (s2 := fun (b_ : ((Unit × Unit) × Bool)) (c_ : ((Unit × Unit) × (Bool × (List (List (Str × List Int)))))) => c_.2.2) (t_kd (c := fun (b_ : ((Unit × Unit) × Bool)) => (!b_.2)) (t_not (t_kd (c := fun (b_ : ((Unit × Unit) × Bool)) => b_.2) (t_lockG (d := (oLO (oMO (κ := Str) (oL pInt))) x378) 0 6 (by exact t_val (x_kd (E := fun (b_ : ((Unit × Unit) × Bool)) => pBl b_.2) (x_FF_f (kk := 4) (E1 := (pL (pM (κ := Str) (pL pInt)))) (E2 := (pL (pM (κ := Str) (pL pInt)))) k_l_same_boxes (hr.mono (by decide)) g_l_same_boxes F_l_same_boxes.kp b_l_same_boxes (x_var (p := (pL (pM (κ := Str) (pL pInt))) x378) 6) (fun _ => x_var (p := (pL (pM (κ := Str) (pL pInt))) x371) 4)))))))) (fun _ => w_or1 (t_kd (c := fun (b_ : ((Unit × Unit) × (Bool × (List (List (Str × List Int)))))) => (!(b_.2.1))) (t_not (t_kd (c := fun (b_ : ((Unit × Unit) × (Bool × (List (List (Str × List Int)))))) => b_.2.1) (t_val (x_kd (E := fun (b_ : ((Unit × Unit) × (Bool × (List (List (Str × List Int)))))) => pBl b_.2.1) (x_OF_f (kk := 1) (E1 := (oLO (oMO (κ := Str) (oL pInt)))) (E2 := (pL (pM (κ := Str) (pL pInt)))) (s1 := fun (_ : Unit) (_ : Unit) => x378) (v1 := v381) k_l_all_new (hr.mono (by decide)) g_l_all_new F_l_all_new.kp b_l_all_new 0 (x_var (p := pV v381) 6) (fun _ => x_var (p := (pL (pM (κ := Str) (pL pInt))) x371) 4) (fun _ _ => rfl)))))))) (fun _ => rfl) (fun _ _ => rfl)))) (fun (b386 : (((Unit × Unit) × Bool) × (Bool × (List (List (Str × List Int)))))) => s_T (T := some (Tm.rt false)) (s_ret (P := (fun _ => [])) (Rp := pBl) (ι := Tm.rt) (rv := fun (b : Unit) => false) (fun _ _ _ h => h) x_bl (fun _ => .cons _ (.slnil)))) fun (b386 : (((Unit × Unit) × Bool) × (Bool × (List (List (Str × List Int)))))) => s_T (T := grd (lokG (deM (κ := Str) (deG (dgL dgInt) (injL injInt) (of_decide_eq_true rfl))).ok x364 a1 = true) (((if (!leqG (deM (κ := Str) (deG (dgL dgInt) (injL injInt) (of_decide_eq_true rfl))).eqv x364 a1) = true then some (true, ()) else grd (okG (dgL (dgT3 dgStr dgInt dgInt)) x368 a2 = true) (some ((!decide (x368 = a2)), ())))).bind fun c387 => if c387.1 = true then inB (some (Tm.rt false)) else some (Bo.nx ()))) (s_ifB ins_T (t_kd (c := fun (b_ : ((Unit × Unit) × (Bool × Unit))) => b_.2.1) (PW.pt (w_orM (ΔS := fun (b_ : (Unit × Unit)) (s_ : Unit) => [⟨v381, (oLO (oMO (κ := Str) (oL pInt))) b386.2.2, none⟩]) (s1 := fun (b_ : (Unit × Unit)) => ()) (s2 := fun (b_ : (Unit × Unit)) (c_ : (Unit × Unit)) => ()) (t_kd (c := fun (b_ : (Unit × Unit)) => (!leqG (deM (κ := Str) (deG (dgL dgInt) (injL injInt) (of_decide_eq_true rfl))).eqv x364 a1)) (t_neQ (deM (κ := Str) (deG (dgL dgInt) (injL injInt) (of_decide_eq_true rfl))) (by exact room_dep hr (by decide)) (x_var (p := (pL (pM (κ := Str) (pL pInt))) x364) 2) (fun _ => x_var (p := (pL (pM (κ := Str) (pL pInt))) a1) 0))) (fun _ => w_or1 (t_kd (c := fun (b_ : (Unit × Unit)) => (!decide (x368 = a2))) (t_neG (dgL (dgT3 dgStr dgInt dgInt)) hr.units (x_var (p := (pL (pT3 pStr pInt pInt)) x368) 3) (fun _ => x_var (p := (pL (pT3 pStr pInt pInt)) a2) 1)))) (fun _ => rfl) (fun _ _ => rfl)))) (fun (b388 : ((Unit × Unit) × (Bool × Unit))) => s_T (T := some (Tm.rt false)) (s_ret (P := (fun _ => [])) (Rp := pBl) (ι := Tm.rt) (rv := fun (b : Unit) => false) (fun _ _ _ h => h) x_bl (fun _ => .cons _ (.slnil)))) fun (b388 : ((Unit × Unit) × (Bool × Unit))) => s_endB () ⟨rfl, rfl, rfl, rfl, rfl, trivial⟩ (.cons _ (.slnil)))))) (fun b373 s376 => s_T (T := some true) (s_ret (P := (fun _ => [])) (Rp := pBl) (ι := id) (rv := fun (b : Unit) => true) (fun _ _ _ h => h) x_bl (fun _ => List.Sublist.refl _))) (fun _ _ _ h => h))))))) (by unfold M_l_carried_out; rfl)
end
end My
end
section
set_option Elab.async false
set_option linter.all false
set_option maxRecDepth 100000
set_option maxHeartbeats 4000000
set_option pp.maxSteps 200
namespace My
open PySem PySem.Spec PyProof.Rows L2 L3
section
variable {P : Program} {w : World} {K : PySem.W.Frag} {mg : Str → Option Value} {base : Heap}
theorem sc_l_told_position : FnScope ["_law_boxes", "_law_steps", "_law_other", "e"] ["_law_boxes", "_law_steps"] (defScope (top 52)) := ⟨rfl, rfl, rfl, by decide +kernel, rfl, by decide +kernel, by decide +kernel⟩
theorem ok_l_told_position {f : Addr} {fd : FuncData} (C : Ev P K mg) (FD : FnP K "_law_told_position" (top 52) f fd)   : FnOk P w K mg base CX0 5 f fd ["_law_boxes", "_law_steps"] (Sp_FF_f (pL (pM (κ := Str) (pL pInt))) (pL (pT3 pStr pInt pInt)) M_l_told_position (pOp pInt)) := by
  have m_isinstance := C.m_isinstance
  obtain ⟨f_run_plan, fd_run_plan, F_run_plan, g_run_plan⟩ := C.f_run_plan
  have k_run_plan := ok_run_plan (P := P) (w := w) (base := base) C F_run_plan
  have b_run_plan : Binds K fd_run_plan ["boxes", "steps"] [] := F_run_plan.bindsN fun _ _ _ _ _ _ us hl => match us, hl with | [_, _], _ => rfl
  refine fn_FF_f FD sc_l_told_position rfl fun cdv A outer s H E hr  a1 a2 => ?_
  exact s_is (s_T (T := ((M_run_plan a1 a2).bind (xK (fun e => Bo.tm ((Except.error) e)) fun r390 => some (Bo.nx ()))).bind (tryK (fun s389 => some (none : Option Int)) id (fun e => subC e.cn "BadStep") (fun e392 => (some (((["UnknownName", "RepeatedName", "UnknownValue", "RepeatedValue", "UnknownKey", "RepeatedKey", "EmptyRule", "BadRow", "BadBounds", "BadNumber", "NoMark", "NotStruck", "BadOrder", "NotBare", "NoClash", "HoldsAnswer", "BadLine", "UnknownLine", "BadText", "NothingToUndo", "NothingToRedo", "UnknownStep", "BadDeed"] : List Str).any (subC e392.cn)) : Bool)).bind fun x393 => if (x393 || ((!(subC e392.cn "DeskError")) || (!(subC e392.cn "ValueError")))) = true then inB (some (none : Option Int)) else inB ((erF e392 "position").bind fun y396 => (FV.int? y396).bind fun z397 => some (some z397))) (fun _ => none))) (s_try_as (Tf := (fF (RF ⟨H, []⟩ (fun _ => []) (pOp pInt)))) (Ke := fun _ => none) (ι := id) (i := 3) (m := fun e => subC e.cn "BadStep") (Kx := erX mg rsL) (fun s_ : Unit => ([some ((pL (pM (κ := Str) (pL pInt))) a1), some ((pL (pT3 pStr pInt pInt)) a2), none, none], [])) ([some ((pL (pM (κ := Str) (pL pInt))) a1), some ((pL (pT3 pStr pInt pInt)) a2), none, none]) ([]) sc_l_told_position.nd (C.xs.names (by decide +kernel)) takes_no (C.xs.exms (by decide +kernel)) (by rfl) (fun W pn xe tkW po => s_T (T := (M_run_plan a1 a2).bind (xK (fun e => Bo.tm ((Except.error) e)) fun r390 => some (Bo.nx ()))) (s_exprOX (x_Xo (kk := 4) (xs := fun (b : (Unit × (Unit × Unit))) => (a1, a2)) k_run_plan tkW (hr.mono (by decide)) g_run_plan F_run_plan.kp b_run_plan (a_cons (x_var (p := (pL (pM (κ := Str) (pL pInt))) a1) 0) (fun _ => a_cons (x_var (p := (pL (pT3 pStr pInt pInt)) a2) 1) (fun _ => a_nil)))) (ex_B ex_X) (List.Sublist.refl _) (fun _ _ h => nm_wk h ⟨rfl, rfl, trivial⟩) fun (b391 : ((Unit × (Unit × Unit)) × (List (List (Str × List Int))))) => s_endB () ⟨rfl, rfl, trivial⟩ (List.Sublist.refl _))) (fun a oe cls d pn hz hf e392 => s_T (T := (some (((["UnknownName", "RepeatedName", "UnknownValue", "RepeatedValue", "UnknownKey", "RepeatedKey", "EmptyRule", "BadRow", "BadBounds", "BadNumber", "NoMark", "NotStruck", "BadOrder", "NotBare", "NoClash", "HoldsAnswer", "BadLine", "UnknownLine", "BadText", "NothingToUndo", "NothingToRedo", "UnknownStep", "BadDeed"] : List Str).any (subC e392.cn)) : Bool)).bind fun x393 => if (x393 || ((!(subC e392.cn "DeskError")) || (!(subC e392.cn "ValueError")))) = true then inB (some (none : Option Int)) else inB ((erF e392 "position").bind fun y396 => (FV.int? y396).bind fun z397 => some (some z397))) (s_let (i := 2) pBl sc_l_told_position.nd (x_kd (E := fun (b_ : Unit) => pBl ((["UnknownName", "RepeatedName", "UnknownValue", "RepeatedValue", "UnknownKey", "RepeatedKey", "EmptyRule", "BadRow", "BadBounds", "BadNumber", "NoMark", "NotStruck", "BadOrder", "NotBare", "NoClash", "HoldsAnswer", "BadLine", "UnknownLine", "BadText", "NothingToUndo", "NothingToRedo", "UnknownStep", "BadDeed"] : List Str).any (subC e392.cn))) (x_isEC ["UnknownName", "RepeatedName", "UnknownValue", "RepeatedValue", "UnknownKey", "RepeatedKey", "EmptyRule", "BadRow", "BadBounds", "BadNumber", "NoMark", "NotStruck", "BadOrder", "NotBare", "NoClash", "HoldsAnswer", "BadLine", "UnknownLine", "BadText", "NothingToUndo", "NothingToRedo", "UnknownStep", "BadDeed"] hz hf C.xs (by decide +kernel) (by decide) m_isinstance (x_var (p := pExc (erX mg rsL) a cls d e392) 3) (fun _ => (c_cons C.xs (by decide +kernel) (c_cons C.xs (by decide +kernel) (c_cons C.xs (by decide +kernel) (c_cons C.xs (by decide +kernel) (c_cons C.xs (by decide +kernel) (c_cons C.xs (by decide +kernel) (c_cons C.xs (by decide +kernel) (c_cons C.xs (by decide +kernel) (c_cons C.xs (by decide +kernel) (c_cons C.xs (by decide +kernel) (c_cons C.xs (by decide +kernel) (c_cons C.xs (by decide +kernel) (c_cons C.xs (by decide +kernel) (c_cons C.xs (by decide +kernel) (c_cons C.xs (by decide +kernel) (c_cons C.xs (by decide +kernel) (c_cons C.xs (by decide +kernel) (c_cons C.xs (by decide +kernel) (c_cons C.xs (by decide +kernel) (c_cons C.xs (by decide +kernel) (c_cons C.xs (by decide +kernel) (c_cons C.xs (by decide +kernel) (c_cons C.xs (by decide +kernel) c_nil)))))))))))))))))))))))))) fun (b394 : Unit) x393 => s_T (T := if (x393 || ((!(subC e392.cn "DeskError")) || (!(subC e392.cn "ValueError")))) = true then inB (some (none : Option Int)) else inB ((erF e392 "position").bind fun y396 => (FV.int? y396).bind fun z397 => some (some z397))) (s_ifB (ins_F _) (t_kd (c := fun (b_ : Unit) => (x393 || ((!(subC e392.cn "DeskError")) || (!(subC e392.cn "ValueError"))))) (PW.pt (w_or (t_totV x393 () (fun _ => rfl) (by exact (t_kd (c := fun (b_ : Unit) => x393) (t_val (y_var (p := pBl x393) 2))))) (w_or (t_totV (!(subC e392.cn "DeskError")) () (fun _ => rfl) (by exact (t_kd (c := fun (b_ : Unit) => (!(subC e392.cn "DeskError"))) (t_not (t_kd (c := fun (b_ : Unit) => (subC e392.cn "DeskError")) (t_val (x_kd (E := fun (b_ : Unit) => pBl (subC e392.cn "DeskError")) (x_isE1 (y := "DeskError") hz hf C.xs (by decide +kernel) m_isinstance (y_var (p := pExc (erX mg rsL) a cls d e392) 3))))))))) (w_or1 (t_totV (!(subC e392.cn "ValueError")) () (fun _ => rfl) (by exact (t_kd (c := fun (b_ : Unit) => (!(subC e392.cn "ValueError"))) (t_not (t_kd (c := fun (b_ : Unit) => (subC e392.cn "ValueError")) (t_val (x_kd (E := fun (b_ : Unit) => pBl (subC e392.cn "ValueError")) (x_isE1 (y := "ValueError") hz hf C.xs (by decide +kernel) m_isinstance (y_var (p := pExc (erX mg rsL) a cls d e392) 3)))))))))))))) (fun (b395 : Unit) => s_T (T := some (none : Option Int)) (s_ret (P := (fun _ => [])) (Rp := (pOp pInt)) (ι := id) (rv := fun (b : Unit) => (none : Option Int)) (fun _ _ _ h => h) (co_none (E := pInt) x_non) (fun _ => List.Sublist.refl _))) fun (b395 : Unit) => s_T (T := inB ((erF e392 "position").bind fun y396 => (FV.int? y396).bind fun z397 => some (some z397))) (s_tm (s_ret (P := (fun _ => [])) (Rp := (pOp pInt)) (ι := id) (rv := fun (b : ((Unit × FV) × Int)) => (some b.2)) (fun _ _ _ h => h) (x_kd (co_some (E := pInt) (x_kd (E := fun (b_ : ((Unit × FV) × Int)) => pInt b_.2) (x_fv (Ee := pInt) FV.int? fv_int (x_erF (f := "position") hz hf C.xs (x_var (p := pExc (erX mg rsL) a cls d e392) 3)))))) (fun _ => List.Sublist.refl _)))))) (fun s389 => s_T (T := some (none : Option Int)) (s_ret (P := (fun _ => [])) (Rp := (pOp pInt)) (ι := id) (rv := fun (b : Unit) => (none : Option Int)) (fun _ _ _ h => h) (co_none (E := pInt) x_non) (fun _ => List.Sublist.refl _))) (fun _ _ _ h => h) (ins_F _) (uns_F _) (fun _ => rfl) (fun _ _ _ _ _ h => nomatch h))) (by unfold M_l_told_position; rfl)
end
end My
end
section
set_option Elab.async false
set_option linter.all false
set_option maxRecDepth 100000
set_option maxHeartbeats 4000000
set_option pp.maxSteps 200
namespace My
open PySem PySem.Spec PyProof.Rows L2 L3
section
variable {P : Program} {w : World} {K : PySem.W.Frag} {mg : Str → Option Value} {base : Heap}
theorem sc_l_refused : FnScope ["_law_boxes", "_law_steps", "_law_due", "_law_passed", "_law_given", "_law_turn", "_law_told", "_law_sides"] ["_law_boxes", "_law_steps", "_law_due"] (defScope (top 53)) := ⟨rfl, rfl, rfl, by decide +kernel, rfl, by decide +kernel, by decide +kernel⟩
theorem ok_l_refused {f : Addr} {fd : FuncData} (C : Ev P K mg) (FD : FnP K "_law_refused" (top 53) f fd)   : FnOk P w K mg base CX0 6 f fd ["_law_boxes", "_law_steps", "_law_due"] (Sp_FFF_f (pL (pM (κ := Str) (pL pInt))) (pL (pT3 pStr pInt pInt)) pInt M_l_refused pBl) := by
  have m_list := C.m_list
  have m_range := C.m_range
  obtain ⟨f_l_copied, fd_l_copied, F_l_copied, g_l_copied⟩ := C.f_l_copied
  have k_l_copied := ok_l_copied (P := P) (w := w) (base := base) C F_l_copied
  have b_l_copied : Binds K fd_l_copied ["_law_sides"] [] := F_l_copied.bindsN fun _ _ _ _ _ _ us hl => match us, hl with | [_], _ => rfl
  obtain ⟨f_l_carried_out, fd_l_carried_out, F_l_carried_out, g_l_carried_out⟩ := C.f_l_carried_out
  have k_l_carried_out := ok_l_carried_out (P := P) (w := w) (base := base) C F_l_carried_out
  have b_l_carried_out : Binds K fd_l_carried_out ["_law_boxes", "_law_steps"] [] := F_l_carried_out.bindsN fun _ _ _ _ _ _ us hl => match us, hl with | [_, _], _ => rfl
  obtain ⟨f_l_told_position, fd_l_told_position, F_l_told_position, g_l_told_position⟩ := C.f_l_told_position
  have k_l_told_position := ok_l_told_position (P := P) (w := w) (base := base) C F_l_told_position
  have b_l_told_position : Binds K fd_l_told_position ["_law_boxes", "_law_steps"] [] := F_l_told_position.bindsN fun _ _ _ _ _ _ us hl => match us, hl with | [_, _], _ => rfl
  obtain ⟨f_l_is_integer, fd_l_is_integer, F_l_is_integer, g_l_is_integer⟩ := C.f_l_is_integer
  have k_l_is_integer_v_o := ok_l_is_integer_v_o (P := P) (w := w) (base := base) C F_l_is_integer
  have b_l_is_integer : Binds K fd_l_is_integer ["_law_actual"] [] := F_l_is_integer.bindsN fun _ _ _ _ _ _ us hl => match us, hl with | [_], _ => rfl
  refine fn_FFF_f FD sc_l_refused rfl fun cdv A outer s H E hr  a1 a2 a3 => ?_
  exact s_is (s_T (T := (compM a1 () (fun x399 s401 => if true = true then (M_l_copied x399).bind fun r403 => some (some r403, ()) else some (none, ()))).bind fun r404 => (some (r404.1 : List (List (Str × List Int)))).bind fun x405 => (some (a2 : List (Str × Int × Int))).bind fun x409 => grd (rg (2 : Int) = true) ((forL (rngL 0 (2 : Int).toNat) (() : Unit) fun x413 s412 => (M_l_told_position x405 x409).bind fun r416 => (some (r416 : Option Int)).bind fun x417 => (M_l_is_integer_v_o x417).bind fun r419 => ((if (!r419) = true then some (true, ()) else ((if (!decide (x417 = (some a3))) = true then some (true, ()) else grd (lokG (deM (κ := Str) (deG (dgL dgInt) (injL injInt) (of_decide_eq_true rfl))).ok x405 a1 = true) (((if (!leqG (deM (κ := Str) (deG (dgL dgInt) (injL injInt) (of_decide_eq_true rfl))).eqv x405 a1) = true then some (true, ()) else grd (okG (dgL (dgT3 dgStr dgInt dgInt)) x409 a2 = true) (some ((!decide (x409 = a2)), ())))).bind fun c420 => some (c420.1, ())))).bind fun c421 => some (c421.1, ()))).bind fun c422 => if c422.1 = true then inB (some (Tm.rt false)) else some (Bo.nx ())).bind (boK (fun s414 => (M_l_carried_out a1 (cutL a2 none (some a3))).bind fun r415 => some r415) id))) (s_letOA (i := 3) (oL (pM (κ := Str) (pL pInt))) (a_lc (i := 3) (own := [("_law_sides", 7)]) (C := fun (b_ : Unit) (s_ : Unit) => []) (s0 := fun (b_ : Unit) => ()) (s2 := fun (b_ : Unit) (x_ : List (Str × List Int)) (s_ : Unit) (c_ : Unit) => ()) (s3 := fun (b_ : Unit) (x_ : List (Str × List Int)) (s_ : Unit) (c_ : Unit) (d_ : (Unit × (List (Str × List Int)))) => ()) (Ex := (pM (κ := Str) (pL pInt))) (Ee := (pM (κ := Str) (pL pInt))) (δ := (List (Str × List Int))) (y := fun (b_ : Unit) (x_ : List (Str × List Int)) (s_ : Unit) (c_ : Unit) (d_ : (Unit × (List (Str × List Int)))) => d_.2) (T2 := fun (b_ : Unit) (x_ : List (Str × List Int)) (s_ : Unit) (c_ : Unit) => (M_l_copied x_).bind fun r403 => some (some r403, ())) (c := fun (b_ : Unit) (x_ : List (Str × List Int)) (s_ : Unit) (c_ : Unit) => true) (f := fun (b_ : Unit) (x_ : List (Str × List Int)) (s_ : Unit) => if true = true then (M_l_copied x_).bind fun r403 => some (some r403, ()) else some (none, ())) sc_l_refused.nd (i_list (x_var (p := (pL (pM (κ := Str) (pL pInt))) a1) 0)) (blkOk_by (own := [("_law_sides", 7)]) (N := ["_law_boxes", "_law_steps", "_law_due", "_law_passed", "_law_given", "_law_turn", "_law_told", "_law_sides"]) (sc := defScope (top 53)) (by decide +kernel)) (fun _ _ _ _ _ => pg_name (i := 7) sc_l_refused.nd rfl (by first | exact .inl rfl | exact .inr rfl)) (tw_name 7) (fun _ => rfl) (by exact fun q402 _ _ _ _ _ b398 x399 s401 => pts_T) (by exact fun q402 _ _ _ _ _ b398 x399 s401 _ => x_out (x_kd (E := fun (b_ : (Unit × (List (Str × List Int)))) => (pM (κ := Str) (pL pInt)) b_.2) (x_frz (o_kd (E := fun (b_ : (Unit × (List (Str × List Int)))) => (oM (κ := Str) (pL pInt)) b_.2) (x_F_o (kk := 1) (E1 := (pM (κ := Str) (pL pInt))) k_l_copied (hr.mono (by decide)) g_l_copied F_l_copied.kp b_l_copied (x_var (p := (pM (κ := Str) (pL pInt)) x399) 7)))))) (sw_true rfl rfl rfl (by decide +kernel))) fun (b406 : (Unit × ((List (List (Str × List Int))) × Unit))) x405 v408 => s_frz (i := 3) (c := ⟨v408, (oL (pM (κ := Str) (pL pInt))) x405, none⟩) 0 (s_T (T := (some (a2 : List (Str × Int × Int))).bind fun x409 => grd (rg (2 : Int) = true) ((forL (rngL 0 (2 : Int).toNat) (() : Unit) fun x413 s412 => (M_l_told_position x405 x409).bind fun r416 => (some (r416 : Option Int)).bind fun x417 => (M_l_is_integer_v_o x417).bind fun r419 => ((if (!r419) = true then some (true, ()) else ((if (!decide (x417 = (some a3))) = true then some (true, ()) else grd (lokG (deM (κ := Str) (deG (dgL dgInt) (injL injInt) (of_decide_eq_true rfl))).ok x405 a1 = true) (((if (!leqG (deM (κ := Str) (deG (dgL dgInt) (injL injInt) (of_decide_eq_true rfl))).eqv x405 a1) = true then some (true, ()) else grd (okG (dgL (dgT3 dgStr dgInt dgInt)) x409 a2 = true) (some ((!decide (x409 = a2)), ())))).bind fun c420 => some (c420.1, ())))).bind fun c421 => some (c421.1, ()))).bind fun c422 => if c422.1 = true then inB (some (Tm.rt false)) else some (Bo.nx ())).bind (boK (fun s414 => (M_l_carried_out a1 (cutL a2 none (some a3))).bind fun r415 => some r415) id))) (s_let (i := 4) (pL (pT3 pStr pInt pInt)) sc_l_refused.nd (x_kd (E := fun (b_ : Unit) => (pL (pT3 pStr pInt pInt)) a2) (x_frz (o_kd (E := fun (b_ : Unit) => (oL (pT3 pStr pInt pInt)) a2) (x_listL (Ee := (pT3 pStr pInt pInt)) m_list (x_var (p := (pL (pT3 pStr pInt pInt)) a2) 1) (fun _ => rdF))))) fun (b410 : Unit) x409 => s_T (T := grd (rg (2 : Int) = true) ((forL (rngL 0 (2 : Int).toNat) (() : Unit) fun x413 s412 => (M_l_told_position x405 x409).bind fun r416 => (some (r416 : Option Int)).bind fun x417 => (M_l_is_integer_v_o x417).bind fun r419 => ((if (!r419) = true then some (true, ()) else ((if (!decide (x417 = (some a3))) = true then some (true, ()) else grd (lokG (deM (κ := Str) (deG (dgL dgInt) (injL injInt) (of_decide_eq_true rfl))).ok x405 a1 = true) (((if (!leqG (deM (κ := Str) (deG (dgL dgInt) (injL injInt) (of_decide_eq_true rfl))).eqv x405 a1) = true then some (true, ()) else grd (okG (dgL (dgT3 dgStr dgInt dgInt)) x409 a2 = true) (some ((!decide (x409 = a2)), ())))).bind fun c420 => some (c420.1, ())))).bind fun c421 => some (c421.1, ()))).bind fun c422 => if c422.1 = true then inB (some (Tm.rt false)) else some (Bo.nx ())).bind (boK (fun s414 => (M_l_carried_out a1 (cutL a2 none (some a3))).bind fun r415 => some r415) id))) (s_for PassesOwn.never (fun (b_ : Unit) (s_ : Unit) => ([some ((pL (pM (κ := Str) (pL pInt))) a1), some ((pL (pT3 pStr pInt pInt)) a2), some (pInt a3), some ((pL (pM (κ := Str) (pL pInt))) x405), some ((pL (pT3 pStr pInt pInt)) x409), none, none, none], [])) (fun (b_ : Unit) => ()) (ι := id) (R := (RF ⟨H, []⟩ (fun _ => []) pBl)) (i_rng1 m_range (x_int (i := 2))) (pg_name (i := 5) sc_l_refused.nd rfl (by first | exact .inl rfl | exact .inr rfl)) (tg_name 5) (fun _ => ⟨rfl, rfl, rfl, rfl, rfl, trivial⟩) (fun _ => List.Sublist.refl _) (fun b411 x413 s412 => s_T (T := (M_l_told_position x405 x409).bind fun r416 => (some (r416 : Option Int)).bind fun x417 => (M_l_is_integer_v_o x417).bind fun r419 => ((if (!r419) = true then some (true, ()) else ((if (!decide (x417 = (some a3))) = true then some (true, ()) else grd (lokG (deM (κ := Str) (deG (dgL dgInt) (injL injInt) (of_decide_eq_true rfl))).ok x405 a1 = true) (((if (!leqG (deM (κ := Str) (deG (dgL dgInt) (injL injInt) (of_decide_eq_true rfl))).eqv x405 a1) = true then some (true, ()) else grd (okG (dgL (dgT3 dgStr dgInt dgInt)) x409 a2 = true) (some ((!decide (x409 = a2)), ())))).bind fun c420 => some (c420.1, ())))).bind fun c421 => some (c421.1, ()))).bind fun c422 => if c422.1 = true then inB (some (Tm.rt false)) else some (Bo.nx ())) (s_let (i := 6) (pOp pInt) sc_l_refused.nd (x_kd (E := fun (b_ : ((Unit × Unit) × (Option Int))) => (pOp pInt) b_.2) (x_FF_f (kk := 5) (E1 := (pL (pM (κ := Str) (pL pInt)))) (E2 := (pL (pT3 pStr pInt pInt))) k_l_told_position (hr.mono (by decide)) g_l_told_position F_l_told_position.kp b_l_told_position (x_var (p := (pL (pM (κ := Str) (pL pInt))) x405) 3) (fun _ => x_var (p := (pL (pT3 pStr pInt pInt)) x409) 4))) fun (b418 : ((Unit × Unit) × (Option Int))) x417 => s_T (T := (M_l_is_integer_v_o x417).bind fun r419 => ((if (!r419) = true then some (true, ()) else ((if (!decide (x417 = (some a3))) = true then some (true, ()) else grd (lokG (deM (κ := Str) (deG (dgL dgInt) (injL injInt) (of_decide_eq_true rfl))).ok x405 a1 = true) (((if (!leqG (deM (κ := Str) (deG (dgL dgInt) (injL injInt) (of_decide_eq_true rfl))).eqv x405 a1) = true then some (true, ()) else grd (okG (dgL (dgT3 dgStr dgInt dgInt)) x409 a2 = true) (some ((!decide (x409 = a2)), ())))).bind fun c420 => some (c420.1, ())))).bind fun c421 => some (c421.1, ()))).bind fun c422 => if c422.1 = true then inB (some (Tm.rt false)) else some (Bo.nx ())) (s_ifB ins_T (t_kd (c := fun (b_ : ((Unit × Bool) × (Bool × Unit))) => b_.2.1) (PW.pt (w_orM (ΔS := fun (b_ : (Unit × Bool)) (s_ : Unit) => []) (s1 := fun (b_ : (Unit × Bool)) => ()) (s2 := fun (b_ : (Unit × Bool)) (c_ : ((Unit × Unit) × (Bool × Unit))) => ()) (t_kd (c := fun (b_ : (Unit × Bool)) => (!b_.2)) (t_not (t_kd (c := fun (b_ : (Unit × Bool)) => b_.2) (t_val (x_kd (E := fun (b_ : (Unit × Bool)) => pBl b_.2) (x_F_f (kk := 1) (E1 := (pOp pInt)) k_l_is_integer_v_o (hr.mono (by decide)) g_l_is_integer F_l_is_integer.kp b_l_is_integer (x_var (p := (pOp pInt) x417) 6))))))) (fun _ => w_orM (ΔS := fun (b_ : (Unit × Unit)) (s_ : Unit) => []) (s1 := fun (b_ : (Unit × Unit)) => ()) (s2 := fun (b_ : (Unit × Unit)) (c_ : ((Unit × Unit) × (Bool × Unit))) => ()) (t_kd (c := fun (b_ : (Unit × Unit)) => (!decide (x417 = (some a3)))) (t_neOI (x_var (p := (pOp pInt) x417) 6) (fun _ => co_some (E := pInt) (x_var (p := pInt a3) 2)))) (fun _ => w_orM (ΔS := fun (b_ : (Unit × Unit)) (s_ : Unit) => []) (s1 := fun (b_ : (Unit × Unit)) => ()) (s2 := fun (b_ : (Unit × Unit)) (c_ : (Unit × Unit)) => ()) (t_kd (c := fun (b_ : (Unit × Unit)) => (!leqG (deM (κ := Str) (deG (dgL dgInt) (injL injInt) (of_decide_eq_true rfl))).eqv x405 a1)) (t_neQ (deM (κ := Str) (deG (dgL dgInt) (injL injInt) (of_decide_eq_true rfl))) (by exact room_dep hr (by decide)) (x_var (p := (pL (pM (κ := Str) (pL pInt))) x405) 3) (fun _ => x_var (p := (pL (pM (κ := Str) (pL pInt))) a1) 0))) (fun _ => w_or1 (t_kd (c := fun (b_ : (Unit × Unit)) => (!decide (x409 = a2))) (t_neG (dgL (dgT3 dgStr dgInt dgInt)) hr.units (x_var (p := (pL (pT3 pStr pInt pInt)) x409) 4) (fun _ => x_var (p := (pL (pT3 pStr pInt pInt)) a2) 1)))) (fun _ => rfl) (fun _ _ => rfl)) (fun _ => rfl) (fun _ _ => rfl)) (fun _ => rfl) (fun _ _ => rfl)))) (fun (b423 : ((Unit × Bool) × (Bool × Unit))) => s_T (T := some (Tm.rt false)) (s_ret (P := (fun _ => [])) (Rp := pBl) (ι := Tm.rt) (rv := fun (b : Unit) => false) (fun _ _ _ h => h) x_bl (fun _ => List.Sublist.refl _))) fun (b423 : ((Unit × Bool) × (Bool × Unit))) => s_endB () ⟨rfl, rfl, rfl, rfl, rfl, trivial⟩ (List.Sublist.refl _)))) (fun b411 s414 => s_T (T := (M_l_carried_out a1 (cutL a2 none (some a3))).bind fun r415 => some r415) (s_ret (P := (fun _ => [])) (Rp := pBl) (ι := id) (rv := fun (b : ((Unit × (Unit × (Unit × Unit))) × Bool)) => b.2) (fun _ _ _ h => h) (x_kd (x_kd (E := fun (b_ : ((Unit × (Unit × (Unit × Unit))) × Bool)) => pBl b_.2) (x_FF_f (kk := 5) (E1 := (pL (pM (κ := Str) (pL pInt)))) (E2 := (pL (pT3 pStr pInt pInt))) k_l_carried_out (hr.mono (by decide)) g_l_carried_out F_l_carried_out.kp b_l_carried_out (x_var (p := (pL (pM (κ := Str) (pL pInt))) a1) 0) (fun _ => x_kd (E := fun (b_ : (Unit × (Unit × Unit))) => (pL (pT3 pStr pInt pInt)) (cutL a2 none (some a3))) (x_frz (o_kd (E := fun (b_ : (Unit × (Unit × Unit))) => (oL (pT3 pStr pInt pInt)) (cutL a2 none (some a3))) (x_slL (Ee := (pT3 pStr pInt pInt)) (x_var (p := (pL (pT3 pStr pInt pInt)) a2) 1) (fun _ => p_none) (fun _ _ => p_some (i := fun (b_ : Unit) => a3) (x_var (p := pInt a3) 2)) (fun _ _ _ => rdF)))))))) (fun _ => List.Sublist.refl _))) (fun _ _ _ h => h)))))) (by unfold M_l_refused; rfl)
end
end My
end
section
set_option Elab.async false
set_option linter.all false
set_option maxRecDepth 100000
set_option maxHeartbeats 4000000
set_option pp.maxSteps 200
namespace My
open PySem PySem.Spec PyProof.Rows L2 L3
section
variable {P : Program} {w : World} {K : PySem.W.Frag} {mg : Str → Option Value} {base : Heap}
theorem sc_law : FnScope ["_law_script", "_law_stream_here", "_law_large", "_law_names_here", "_law_pool_here", "_law_boxes", "_law_k", "_law_count", "_law_steps", "_law_due", "_law_turn", "_law_at"] ["_law_script"] (defScope (top 54)) := ⟨rfl, rfl, rfl, by decide +kernel, rfl, by decide +kernel, by decide +kernel⟩
theorem ok_law {f : Addr} {fd : FuncData} (C : Ev P K mg) (FD : FnP K "law" (top 54) f fd)   : FnOk P w K mg base CX0 7 f fd ["_law_script"] (Sp_S K M_law) := by
  have m_len := C.m_len
  have m_min := C.m_min
  have m_range := C.m_range
  obtain ⟨f_l_stream, fd_l_stream, F_l_stream, g_l_stream⟩ := C.f_l_stream
  have k_l_stream := ok_l_stream (P := P) (w := w) (base := base) C F_l_stream
  have b_l_stream : Binds K fd_l_stream ["_law_script", "_law_k"] [] := F_l_stream.bindsN fun _ _ _ _ _ _ us hl => match us, hl with | [_, _], _ => rfl
  obtain ⟨f_l_next, fd_l_next, F_l_next, g_l_next⟩ := C.f_l_next
  have k_l_next := ok_l_next (P := P) (w := w) (base := base) C F_l_next
  have b_l_next : Binds K fd_l_next ["_law_stream_here", "_law_size"] [] := F_l_next.bindsN fun _ _ _ _ _ _ us hl => match us, hl with | [_, _], _ => rfl
  obtain ⟨f_l_names, fd_l_names, F_l_names, g_l_names⟩ := C.f_l_names
  have k_l_names := ok_l_names (P := P) (w := w) (base := base) C F_l_names
  have b_l_names : Binds K fd_l_names ["_law_stream_here", "_law_count"] [] := F_l_names.bindsN fun _ _ _ _ _ _ us hl => match us, hl with | [_, _], _ => rfl
  obtain ⟨f_l_pool, fd_l_pool, F_l_pool, g_l_pool⟩ := C.f_l_pool
  have k_l_pool := ok_l_pool (P := P) (w := w) (base := base) C F_l_pool
  have b_l_pool : Binds K fd_l_pool ["_law_stream_here", "_law_count"] [] := F_l_pool.bindsN fun _ _ _ _ _ _ us hl => match us, hl with | [_, _], _ => rfl
  obtain ⟨f_l_good_steps, fd_l_good_steps, F_l_good_steps, g_l_good_steps⟩ := C.f_l_good_steps
  have k_l_good_steps := ok_l_good_steps (P := P) (w := w) (base := base) C F_l_good_steps
  have b_l_good_steps : Binds K fd_l_good_steps ["_law_stream_here", "_law_names_here", "_law_start", "_law_count"] [] := F_l_good_steps.bindsN fun _ _ _ _ _ _ us hl => match us, hl with | [_, _, _, _], _ => rfl
  obtain ⟨f_l_carried_out, fd_l_carried_out, F_l_carried_out, g_l_carried_out⟩ := C.f_l_carried_out
  have k_l_carried_out := ok_l_carried_out (P := P) (w := w) (base := base) C F_l_carried_out
  have b_l_carried_out : Binds K fd_l_carried_out ["_law_boxes", "_law_steps"] [] := F_l_carried_out.bindsN fun _ _ _ _ _ _ us hl => match us, hl with | [_, _], _ => rfl
  obtain ⟨f_l_refused, fd_l_refused, F_l_refused, g_l_refused⟩ := C.f_l_refused
  have k_l_refused := ok_l_refused (P := P) (w := w) (base := base) C F_l_refused
  have b_l_refused : Binds K fd_l_refused ["_law_boxes", "_law_steps", "_law_due"] [] := F_l_refused.bindsN fun _ _ _ _ _ _ us hl => match us, hl with | [_, _, _], _ => rfl
  obtain ⟨f_l_bad_step, fd_l_bad_step, F_l_bad_step, g_l_bad_step⟩ := C.f_l_bad_step
  have k_l_bad_step := ok_l_bad_step (P := P) (w := w) (base := base) C F_l_bad_step
  have b_l_bad_step : Binds K fd_l_bad_step ["_law_stream_here", "_law_step", "_law_own"] [] := F_l_bad_step.bindsN fun _ _ _ _ _ _ us hl => match us, hl with | [_, _, _], _ => rfl
  obtain ⟨f_l_drawn_sides, fd_l_drawn_sides, F_l_drawn_sides, g_l_drawn_sides⟩ := C.f_l_drawn_sides
  have k_l_drawn_sides := ok_l_drawn_sides (P := P) (w := w) (base := base) C F_l_drawn_sides
  have b_l_drawn_sides : Binds K fd_l_drawn_sides ["_law_stream_here", "_law_names_here", "_law_pool_here"] [] := F_l_drawn_sides.bindsN fun _ _ _ _ _ _ us hl => match us, hl with | [_, _, _], _ => rfl
  refine fn_S FD sc_law rfl fun cdv A outer s H E hr Mq a1 => ?_
  exact s_is (s_T (T := (M_l_stream a1 (0 : Int)).bind fun r424 => (some (r424 : List Int)).bind fun x425 => (M_l_next x425 (8 : Int)).bind fun r429 => (some ((decide ((r429.1) = (0 : Int))) : Bool)).bind fun x430 => ((if x430 = true then some ((5 : Int), r429.2) else (M_l_next (r429.2) (4 : Int)).bind fun r433 => some (((1 : Int) + (r433.1)), r433.2))).bind fun c434 => (M_l_names (c434.2) (c434.1)).bind fun r435 => (some (r435.1 : List Str)).bind fun x436 => (M_l_next (r435.2) (4 : Int)).bind fun r438 => (M_l_pool (r438.2) ((2 : Int) + (r438.1))).bind fun r439 => (some (r439.1 : List Int)).bind fun x440 => (some ([] : List (List (Str × List Int)))).bind fun x442 => ((if x430 = true then (M_l_next (r439.2) (13 : Int)).bind fun r447 => some (((12 : Int) + (r447.1)), r447.2) else (M_l_next (r439.2) (6 : Int)).bind fun r448 => some (r448.1, r448.2))).bind fun c449 => grd (rg (c449.1) = true) ((forS (rngL 0 (c449.1).toNat) ((x442, c449.2) : (List (List (Str × List Int))) × (List Int)) fun x452 s451 => (M_l_drawn_sides (s451.2) x436 x440).bind fun r509 => grd ((s451.1).length < sizeLine) (some (((s451.1) ++ [r509.1]), r509.2))).bind fun s453 => (M_l_stream a1 (1 : Int)).bind fun r454 => (some (r454 : List Int)).bind fun x455 => ((if x430 = true then (M_l_next x455 (21 : Int)).bind fun r461 => some (((20 : Int) + (r461.1)), r461.2) else (M_l_next x455 (9 : Int)).bind fun r462 => some (r462.1, r462.2))).bind fun c463 => (some (c463.1 : Int)).bind fun x464 => (M_l_next (c463.2) (24 : Int)).bind fun r466 => (if (decide ((r466.1) = (23 : Int))) = true then (M_l_next (r466.2) (2 : Int)).bind fun r506 => (some (((300 : Int) + (r506.1)) : Int)).bind fun x507 => some (x507, r506.2) else some (x464, r466.2)).bind fun s468 => (M_l_good_steps (s468.2) x436 ((s453.1).length : Int) (s468.1)).bind fun r469 => (some (r469.1 : List (Str × Int × Int))).bind fun x470 => ((if (decide ((0 : Int) < ((s453.1).length : Int))) = true then (M_l_carried_out (s453.1) x470).bind fun r475 => some ((!r475), ()) else some (false, ()))).bind fun c476 => if c476.1 = true then some false else if (decide ((x470.length : Int) = (0 : Int))) = true then (M_l_carried_out (s453.1) x470).bind fun r479 => some r479 else (M_l_stream a1 (2 : Int)).bind fun r480 => (some (r480 : List Int)).bind fun x481 => if (decide (((s453.1).length : Int) = (0 : Int))) = true then (M_l_refused (s453.1) x470 (0 : Int)).bind fun r487 => some r487 else (M_l_next x481 (2 : Int)).bind fun r488 => if (decide ((r488.1) = (0 : Int))) = true then some true else (some ((x470.length : Int) : Int)).bind fun x490 => (M_l_next (r488.2) (2 : Int)).bind fun r492 => grd (rg ((1 : Int) + (r492.1)) = true) ((forS (rngL 0 ((1 : Int) + (r492.1)).toNat) ((x490, r492.2, x470) : Int × (List Int) × (List (Str × Int × Int))) fun x495 s494 => (M_l_next (s494.2.1) ((s494.2.2).length : Int)).bind fun r498 => (some (r498.1 : Int)).bind fun x499 => (atI (s494.2.2) x499).bind fun x501 => (M_l_bad_step (r498.2) x501 (((s453.1).length : Int) + x499)).bind fun r502 => (ixN (s494.2.2).length x499).bind fun (_ : Nat) => (some ((min (s494.1) x499) : Int)).bind fun x504 => some (x504, r502.2, ((s494.2.2).set ((ixN (s494.2.2).length x499).getD 0) (r502.1)))).bind fun s496 => (M_l_refused (s453.1) (s496.2.2) (s496.1)).bind fun r497 => some r497))) (s_letO (i := 1) (oL pInt) sc_law.nd (o_kd (E := fun (b_ : ((Unit × Unit) × (List Int))) => (oL pInt) b_.2) (x_FF_o (kk := 1) (E1 := (pS K)) (E2 := pInt) k_l_stream (hr.mono (by decide)) g_l_stream F_l_stream.kp b_l_stream (x_var (p := (pS K) a1) 0) (fun _ => x_int (i := 0)))) fun (b426 : ((Unit × Unit) × (List Int))) x425 v428 => s_T (T := (M_l_next x425 (8 : Int)).bind fun r429 => (some ((decide ((r429.1) = (0 : Int))) : Bool)).bind fun x430 => ((if x430 = true then some ((5 : Int), r429.2) else (M_l_next (r429.2) (4 : Int)).bind fun r433 => some (((1 : Int) + (r433.1)), r433.2))).bind fun c434 => (M_l_names (c434.2) (c434.1)).bind fun r435 => (some (r435.1 : List Str)).bind fun x436 => (M_l_next (r435.2) (4 : Int)).bind fun r438 => (M_l_pool (r438.2) ((2 : Int) + (r438.1))).bind fun r439 => (some (r439.1 : List Int)).bind fun x440 => (some ([] : List (List (Str × List Int)))).bind fun x442 => ((if x430 = true then (M_l_next (r439.2) (13 : Int)).bind fun r447 => some (((12 : Int) + (r447.1)), r447.2) else (M_l_next (r439.2) (6 : Int)).bind fun r448 => some (r448.1, r448.2))).bind fun c449 => grd (rg (c449.1) = true) ((forS (rngL 0 (c449.1).toNat) ((x442, c449.2) : (List (List (Str × List Int))) × (List Int)) fun x452 s451 => (M_l_drawn_sides (s451.2) x436 x440).bind fun r509 => grd ((s451.1).length < sizeLine) (some (((s451.1) ++ [r509.1]), r509.2))).bind fun s453 => (M_l_stream a1 (1 : Int)).bind fun r454 => (some (r454 : List Int)).bind fun x455 => ((if x430 = true then (M_l_next x455 (21 : Int)).bind fun r461 => some (((20 : Int) + (r461.1)), r461.2) else (M_l_next x455 (9 : Int)).bind fun r462 => some (r462.1, r462.2))).bind fun c463 => (some (c463.1 : Int)).bind fun x464 => (M_l_next (c463.2) (24 : Int)).bind fun r466 => (if (decide ((r466.1) = (23 : Int))) = true then (M_l_next (r466.2) (2 : Int)).bind fun r506 => (some (((300 : Int) + (r506.1)) : Int)).bind fun x507 => some (x507, r506.2) else some (x464, r466.2)).bind fun s468 => (M_l_good_steps (s468.2) x436 ((s453.1).length : Int) (s468.1)).bind fun r469 => (some (r469.1 : List (Str × Int × Int))).bind fun x470 => ((if (decide ((0 : Int) < ((s453.1).length : Int))) = true then (M_l_carried_out (s453.1) x470).bind fun r475 => some ((!r475), ()) else some (false, ()))).bind fun c476 => if c476.1 = true then some false else if (decide ((x470.length : Int) = (0 : Int))) = true then (M_l_carried_out (s453.1) x470).bind fun r479 => some r479 else (M_l_stream a1 (2 : Int)).bind fun r480 => (some (r480 : List Int)).bind fun x481 => if (decide (((s453.1).length : Int) = (0 : Int))) = true then (M_l_refused (s453.1) x470 (0 : Int)).bind fun r487 => some r487 else (M_l_next x481 (2 : Int)).bind fun r488 => if (decide ((r488.1) = (0 : Int))) = true then some true else (some ((x470.length : Int) : Int)).bind fun x490 => (M_l_next (r488.2) (2 : Int)).bind fun r492 => grd (rg ((1 : Int) + (r492.1)) = true) ((forS (rngL 0 ((1 : Int) + (r492.1)).toNat) ((x490, r492.2, x470) : Int × (List Int) × (List (Str × Int × Int))) fun x495 s494 => (M_l_next (s494.2.1) ((s494.2.2).length : Int)).bind fun r498 => (some (r498.1 : Int)).bind fun x499 => (atI (s494.2.2) x499).bind fun x501 => (M_l_bad_step (r498.2) x501 (((s453.1).length : Int) + x499)).bind fun r502 => (ixN (s494.2.2).length x499).bind fun (_ : Nat) => (some ((min (s494.1) x499) : Int)).bind fun x504 => some (x504, r502.2, ((s494.2.2).set ((ixN (s494.2.2).length x499).getD 0) (r502.1)))).bind fun s496 => (M_l_refused (s453.1) (s496.2.2) (s496.1)).bind fun r497 => some r497))) (s_let (i := 2) pBl sc_law.nd (x_kd (E := fun (b_ : (((Unit × Unit) × (Int × (List Int))) × Unit)) => pBl (decide ((b_.1.2.1) = (0 : Int)))) (x_eqI (x_kd (E := fun (b_ : ((Unit × Unit) × (Int × (List Int)))) => pInt b_.2.1) (x_OF_f (kk := 1) (E1 := (oL pInt)) (E2 := pInt) (s1 := fun (_ : Unit) (_ : Unit) => x425) (v1 := v428) k_l_next (hr.mono (by decide)) g_l_next F_l_next.kp b_l_next 0 (x_var (p := pV v428) 1) (fun _ => x_int (i := 8)) (fun _ _ => rfl))) (fun _ => x_int (i := 0)))) fun (b431 : (((Unit × Unit) × (Int × (List Int))) × Unit)) x430 => s_T (T := ((if x430 = true then some ((5 : Int), b431.1.2.2) else (M_l_next (b431.1.2.2) (4 : Int)).bind fun r433 => some (((1 : Int) + (r433.1)), r433.2))).bind fun c434 => (M_l_names (c434.2) (c434.1)).bind fun r435 => (some (r435.1 : List Str)).bind fun x436 => (M_l_next (r435.2) (4 : Int)).bind fun r438 => (M_l_pool (r438.2) ((2 : Int) + (r438.1))).bind fun r439 => (some (r439.1 : List Int)).bind fun x440 => (some ([] : List (List (Str × List Int)))).bind fun x442 => ((if x430 = true then (M_l_next (r439.2) (13 : Int)).bind fun r447 => some (((12 : Int) + (r447.1)), r447.2) else (M_l_next (r439.2) (6 : Int)).bind fun r448 => some (r448.1, r448.2))).bind fun c449 => grd (rg (c449.1) = true) ((forS (rngL 0 (c449.1).toNat) ((x442, c449.2) : (List (List (Str × List Int))) × (List Int)) fun x452 s451 => (M_l_drawn_sides (s451.2) x436 x440).bind fun r509 => grd ((s451.1).length < sizeLine) (some (((s451.1) ++ [r509.1]), r509.2))).bind fun s453 => (M_l_stream a1 (1 : Int)).bind fun r454 => (some (r454 : List Int)).bind fun x455 => ((if x430 = true then (M_l_next x455 (21 : Int)).bind fun r461 => some (((20 : Int) + (r461.1)), r461.2) else (M_l_next x455 (9 : Int)).bind fun r462 => some (r462.1, r462.2))).bind fun c463 => (some (c463.1 : Int)).bind fun x464 => (M_l_next (c463.2) (24 : Int)).bind fun r466 => (if (decide ((r466.1) = (23 : Int))) = true then (M_l_next (r466.2) (2 : Int)).bind fun r506 => (some (((300 : Int) + (r506.1)) : Int)).bind fun x507 => some (x507, r506.2) else some (x464, r466.2)).bind fun s468 => (M_l_good_steps (s468.2) x436 ((s453.1).length : Int) (s468.1)).bind fun r469 => (some (r469.1 : List (Str × Int × Int))).bind fun x470 => ((if (decide ((0 : Int) < ((s453.1).length : Int))) = true then (M_l_carried_out (s453.1) x470).bind fun r475 => some ((!r475), ()) else some (false, ()))).bind fun c476 => if c476.1 = true then some false else if (decide ((x470.length : Int) = (0 : Int))) = true then (M_l_carried_out (s453.1) x470).bind fun r479 => some r479 else (M_l_stream a1 (2 : Int)).bind fun r480 => (some (r480 : List Int)).bind fun x481 => if (decide (((s453.1).length : Int) = (0 : Int))) = true then (M_l_refused (s453.1) x470 (0 : Int)).bind fun r487 => some r487 else (M_l_next x481 (2 : Int)).bind fun r488 => if (decide ((r488.1) = (0 : Int))) = true then some true else (some ((x470.length : Int) : Int)).bind fun x490 => (M_l_next (r488.2) (2 : Int)).bind fun r492 => grd (rg ((1 : Int) + (r492.1)) = true) ((forS (rngL 0 ((1 : Int) + (r492.1)).toNat) ((x490, r492.2, x470) : Int × (List Int) × (List (Str × Int × Int))) fun x495 s494 => (M_l_next (s494.2.1) ((s494.2.2).length : Int)).bind fun r498 => (some (r498.1 : Int)).bind fun x499 => (atI (s494.2.2) x499).bind fun x501 => (M_l_bad_step (r498.2) x501 (((s453.1).length : Int) + x499)).bind fun r502 => (ixN (s494.2.2).length x499).bind fun (_ : Nat) => (some ((min (s494.1) x499) : Int)).bind fun x504 => some (x504, r502.2, ((s494.2.2).set ((ixN (s494.2.2).length x499).getD 0) (r502.1)))).bind fun s496 => (M_l_refused (s453.1) (s496.2.2) (s496.1)).bind fun r497 => some r497))) (s_let (i := 3) (pL pStr) sc_law.nd (x_kd (E := fun (b_ : ((Unit × (Unit × (Int × (List Int)))) × ((List Str) × (List Int)))) => (pL pStr) b_.2.1) (x_frz (o_kd (E := fun (b_ : ((Unit × (Unit × (Int × (List Int)))) × ((List Str) × (List Int)))) => (oL pStr) b_.2.1) (x_OF_o (kk := 2) (E1 := (oL pInt)) (E2 := pInt) (v1 := v428) k_l_names (hr.mono (by decide)) g_l_names F_l_names.kp b_l_names 0 (x_var (p := pV v428) 1) (fun _ => x_kd (E := fun (b_ : (Unit × (Int × (List Int)))) => pInt b_.2.1) (x_ife (ΔS := fun (b_ : Unit) (s_ : (List Int)) => [⟨v428, (oL pInt) s_, none⟩]) (va := fun (b_ : Unit) (c_ : Unit) => (5 : Int)) (sa := fun (b_ : Unit) (c_ : Unit) => b431.1.2.2) (vb := fun (b_ : Unit) (c_ : (Unit × ((Unit × Unit) × (Int × (List Int))))) => ((1 : Int) + (c_.2.2.1))) (sb := fun (b_ : Unit) (c_ : (Unit × ((Unit × Unit) × (Int × (List Int))))) => c_.2.2.2) pInt (t_kd (c := fun (b_ : Unit) => x430) (t_val (x_var (p := pBl x430) 2))) (fun (b432 : Unit) => x_int (i := 5)) (fun (b432 : Unit) => x_kd (E := fun (b_ : (Unit × ((Unit × Unit) × (Int × (List Int))))) => pInt ((1 : Int) + (b_.2.2.1))) (x_add (x_int (i := 1)) (fun _ => x_kd (E := fun (b_ : ((Unit × Unit) × (Int × (List Int)))) => pInt b_.2.1) (x_OF_f (kk := 1) (E1 := (oL pInt)) (E2 := pInt) (s1 := fun (_ : Unit) (_ : Unit) => b431.1.2.2) (v1 := v428) k_l_next (hr.mono (by decide)) g_l_next F_l_next.kp b_l_next 0 (x_var (p := pV v428) 1) (fun _ => x_int (i := 4)) (fun _ _ => rfl))))) (fun _ _ => rfl) (fun _ _ => rfl))) (fun _ _ => rfl))))) fun (b437 : ((Unit × (Unit × (Int × (List Int)))) × ((List Str) × (List Int)))) x436 => s_T (T := (M_l_next (b437.2.2) (4 : Int)).bind fun r438 => (M_l_pool (r438.2) ((2 : Int) + (r438.1))).bind fun r439 => (some (r439.1 : List Int)).bind fun x440 => (some ([] : List (List (Str × List Int)))).bind fun x442 => ((if x430 = true then (M_l_next (r439.2) (13 : Int)).bind fun r447 => some (((12 : Int) + (r447.1)), r447.2) else (M_l_next (r439.2) (6 : Int)).bind fun r448 => some (r448.1, r448.2))).bind fun c449 => grd (rg (c449.1) = true) ((forS (rngL 0 (c449.1).toNat) ((x442, c449.2) : (List (List (Str × List Int))) × (List Int)) fun x452 s451 => (M_l_drawn_sides (s451.2) x436 x440).bind fun r509 => grd ((s451.1).length < sizeLine) (some (((s451.1) ++ [r509.1]), r509.2))).bind fun s453 => (M_l_stream a1 (1 : Int)).bind fun r454 => (some (r454 : List Int)).bind fun x455 => ((if x430 = true then (M_l_next x455 (21 : Int)).bind fun r461 => some (((20 : Int) + (r461.1)), r461.2) else (M_l_next x455 (9 : Int)).bind fun r462 => some (r462.1, r462.2))).bind fun c463 => (some (c463.1 : Int)).bind fun x464 => (M_l_next (c463.2) (24 : Int)).bind fun r466 => (if (decide ((r466.1) = (23 : Int))) = true then (M_l_next (r466.2) (2 : Int)).bind fun r506 => (some (((300 : Int) + (r506.1)) : Int)).bind fun x507 => some (x507, r506.2) else some (x464, r466.2)).bind fun s468 => (M_l_good_steps (s468.2) x436 ((s453.1).length : Int) (s468.1)).bind fun r469 => (some (r469.1 : List (Str × Int × Int))).bind fun x470 => ((if (decide ((0 : Int) < ((s453.1).length : Int))) = true then (M_l_carried_out (s453.1) x470).bind fun r475 => some ((!r475), ()) else some (false, ()))).bind fun c476 => if c476.1 = true then some false else if (decide ((x470.length : Int) = (0 : Int))) = true then (M_l_carried_out (s453.1) x470).bind fun r479 => some r479 else (M_l_stream a1 (2 : Int)).bind fun r480 => (some (r480 : List Int)).bind fun x481 => if (decide (((s453.1).length : Int) = (0 : Int))) = true then (M_l_refused (s453.1) x470 (0 : Int)).bind fun r487 => some r487 else (M_l_next x481 (2 : Int)).bind fun r488 => if (decide ((r488.1) = (0 : Int))) = true then some true else (some ((x470.length : Int) : Int)).bind fun x490 => (M_l_next (r488.2) (2 : Int)).bind fun r492 => grd (rg ((1 : Int) + (r492.1)) = true) ((forS (rngL 0 ((1 : Int) + (r492.1)).toNat) ((x490, r492.2, x470) : Int × (List Int) × (List (Str × Int × Int))) fun x495 s494 => (M_l_next (s494.2.1) ((s494.2.2).length : Int)).bind fun r498 => (some (r498.1 : Int)).bind fun x499 => (atI (s494.2.2) x499).bind fun x501 => (M_l_bad_step (r498.2) x501 (((s453.1).length : Int) + x499)).bind fun r502 => (ixN (s494.2.2).length x499).bind fun (_ : Nat) => (some ((min (s494.1) x499) : Int)).bind fun x504 => some (x504, r502.2, ((s494.2.2).set ((ixN (s494.2.2).length x499).getD 0) (r502.1)))).bind fun s496 => (M_l_refused (s453.1) (s496.2.2) (s496.1)).bind fun r497 => some r497))) (s_let (i := 4) (pL pInt) sc_law.nd (x_kd (E := fun (b_ : ((Unit × (Unit × ((Unit × Unit) × (Int × (List Int))))) × ((List Int) × (List Int)))) => (pL pInt) b_.2.1) (x_frz (o_kd (E := fun (b_ : ((Unit × (Unit × ((Unit × Unit) × (Int × (List Int))))) × ((List Int) × (List Int)))) => (oL pInt) b_.2.1) (x_OF_o (kk := 2) (E1 := (oL pInt)) (E2 := pInt) (v1 := v428) k_l_pool (hr.mono (by decide)) g_l_pool F_l_pool.kp b_l_pool 0 (x_var (p := pV v428) 1) (fun _ => x_kd (E := fun (b_ : (Unit × ((Unit × Unit) × (Int × (List Int))))) => pInt ((2 : Int) + (b_.2.2.1))) (x_add (x_int (i := 2)) (fun _ => x_kd (E := fun (b_ : ((Unit × Unit) × (Int × (List Int)))) => pInt b_.2.1) (x_OF_f (kk := 1) (E1 := (oL pInt)) (E2 := pInt) (s1 := fun (_ : Unit) (_ : Unit) => b437.2.2) (v1 := v428) k_l_next (hr.mono (by decide)) g_l_next F_l_next.kp b_l_next 0 (x_var (p := pV v428) 1) (fun _ => x_int (i := 4)) (fun _ _ => rfl))))) (fun _ _ => rfl))))) fun (b441 : ((Unit × (Unit × ((Unit × Unit) × (Int × (List Int))))) × ((List Int) × (List Int)))) x440 => s_T (T := (some ([] : List (List (Str × List Int)))).bind fun x442 => ((if x430 = true then (M_l_next (b441.2.2) (13 : Int)).bind fun r447 => some (((12 : Int) + (r447.1)), r447.2) else (M_l_next (b441.2.2) (6 : Int)).bind fun r448 => some (r448.1, r448.2))).bind fun c449 => grd (rg (c449.1) = true) ((forS (rngL 0 (c449.1).toNat) ((x442, c449.2) : (List (List (Str × List Int))) × (List Int)) fun x452 s451 => (M_l_drawn_sides (s451.2) x436 x440).bind fun r509 => grd ((s451.1).length < sizeLine) (some (((s451.1) ++ [r509.1]), r509.2))).bind fun s453 => (M_l_stream a1 (1 : Int)).bind fun r454 => (some (r454 : List Int)).bind fun x455 => ((if x430 = true then (M_l_next x455 (21 : Int)).bind fun r461 => some (((20 : Int) + (r461.1)), r461.2) else (M_l_next x455 (9 : Int)).bind fun r462 => some (r462.1, r462.2))).bind fun c463 => (some (c463.1 : Int)).bind fun x464 => (M_l_next (c463.2) (24 : Int)).bind fun r466 => (if (decide ((r466.1) = (23 : Int))) = true then (M_l_next (r466.2) (2 : Int)).bind fun r506 => (some (((300 : Int) + (r506.1)) : Int)).bind fun x507 => some (x507, r506.2) else some (x464, r466.2)).bind fun s468 => (M_l_good_steps (s468.2) x436 ((s453.1).length : Int) (s468.1)).bind fun r469 => (some (r469.1 : List (Str × Int × Int))).bind fun x470 => ((if (decide ((0 : Int) < ((s453.1).length : Int))) = true then (M_l_carried_out (s453.1) x470).bind fun r475 => some ((!r475), ()) else some (false, ()))).bind fun c476 => if c476.1 = true then some false else if (decide ((x470.length : Int) = (0 : Int))) = true then (M_l_carried_out (s453.1) x470).bind fun r479 => some r479 else (M_l_stream a1 (2 : Int)).bind fun r480 => (some (r480 : List Int)).bind fun x481 => if (decide (((s453.1).length : Int) = (0 : Int))) = true then (M_l_refused (s453.1) x470 (0 : Int)).bind fun r487 => some r487 else (M_l_next x481 (2 : Int)).bind fun r488 => if (decide ((r488.1) = (0 : Int))) = true then some true else (some ((x470.length : Int) : Int)).bind fun x490 => (M_l_next (r488.2) (2 : Int)).bind fun r492 => grd (rg ((1 : Int) + (r492.1)) = true) ((forS (rngL 0 ((1 : Int) + (r492.1)).toNat) ((x490, r492.2, x470) : Int × (List Int) × (List (Str × Int × Int))) fun x495 s494 => (M_l_next (s494.2.1) ((s494.2.2).length : Int)).bind fun r498 => (some (r498.1 : Int)).bind fun x499 => (atI (s494.2.2) x499).bind fun x501 => (M_l_bad_step (r498.2) x501 (((s453.1).length : Int) + x499)).bind fun r502 => (ixN (s494.2.2).length x499).bind fun (_ : Nat) => (some ((min (s494.1) x499) : Int)).bind fun x504 => some (x504, r502.2, ((s494.2.2).set ((ixN (s494.2.2).length x499).getD 0) (r502.1)))).bind fun s496 => (M_l_refused (s453.1) (s496.2.2) (s496.1)).bind fun r497 => some r497))) (s_letO (i := 5) (oL (pM (κ := Str) (pL pInt))) sc_law.nd (o_kd (E := fun (b_ : Unit) => (oL (pM (κ := Str) (pL pInt))) ([])) (x_nil (pM (κ := Str) (pL pInt)))) fun (b443 : Unit) x442 v445 => s_T (T := ((if x430 = true then (M_l_next (b441.2.2) (13 : Int)).bind fun r447 => some (((12 : Int) + (r447.1)), r447.2) else (M_l_next (b441.2.2) (6 : Int)).bind fun r448 => some (r448.1, r448.2))).bind fun c449 => grd (rg (c449.1) = true) ((forS (rngL 0 (c449.1).toNat) ((x442, c449.2) : (List (List (Str × List Int))) × (List Int)) fun x452 s451 => (M_l_drawn_sides (s451.2) x436 x440).bind fun r509 => grd ((s451.1).length < sizeLine) (some (((s451.1) ++ [r509.1]), r509.2))).bind fun s453 => (M_l_stream a1 (1 : Int)).bind fun r454 => (some (r454 : List Int)).bind fun x455 => ((if x430 = true then (M_l_next x455 (21 : Int)).bind fun r461 => some (((20 : Int) + (r461.1)), r461.2) else (M_l_next x455 (9 : Int)).bind fun r462 => some (r462.1, r462.2))).bind fun c463 => (some (c463.1 : Int)).bind fun x464 => (M_l_next (c463.2) (24 : Int)).bind fun r466 => (if (decide ((r466.1) = (23 : Int))) = true then (M_l_next (r466.2) (2 : Int)).bind fun r506 => (some (((300 : Int) + (r506.1)) : Int)).bind fun x507 => some (x507, r506.2) else some (x464, r466.2)).bind fun s468 => (M_l_good_steps (s468.2) x436 ((s453.1).length : Int) (s468.1)).bind fun r469 => (some (r469.1 : List (Str × Int × Int))).bind fun x470 => ((if (decide ((0 : Int) < ((s453.1).length : Int))) = true then (M_l_carried_out (s453.1) x470).bind fun r475 => some ((!r475), ()) else some (false, ()))).bind fun c476 => if c476.1 = true then some false else if (decide ((x470.length : Int) = (0 : Int))) = true then (M_l_carried_out (s453.1) x470).bind fun r479 => some r479 else (M_l_stream a1 (2 : Int)).bind fun r480 => (some (r480 : List Int)).bind fun x481 => if (decide (((s453.1).length : Int) = (0 : Int))) = true then (M_l_refused (s453.1) x470 (0 : Int)).bind fun r487 => some r487 else (M_l_next x481 (2 : Int)).bind fun r488 => if (decide ((r488.1) = (0 : Int))) = true then some true else (some ((x470.length : Int) : Int)).bind fun x490 => (M_l_next (r488.2) (2 : Int)).bind fun r492 => grd (rg ((1 : Int) + (r492.1)) = true) ((forS (rngL 0 ((1 : Int) + (r492.1)).toNat) ((x490, r492.2, x470) : Int × (List Int) × (List (Str × Int × Int))) fun x495 s494 => (M_l_next (s494.2.1) ((s494.2.2).length : Int)).bind fun r498 => (some (r498.1 : Int)).bind fun x499 => (atI (s494.2.2) x499).bind fun x501 => (M_l_bad_step (r498.2) x501 (((s453.1).length : Int) + x499)).bind fun r502 => (ixN (s494.2.2).length x499).bind fun (_ : Nat) => (some ((min (s494.1) x499) : Int)).bind fun x504 => some (x504, r502.2, ((s494.2.2).set ((ixN (s494.2.2).length x499).getD 0) (r502.1)))).bind fun s496 => (M_l_refused (s453.1) (s496.2.2) (s496.1)).bind fun r497 => some r497))) (s_forS PassesOwn.never (fun (b_ : (Unit × (Int × (List Int)))) (s_ : (List (List (Str × List Int))) × (List Int)) => ([some ((pS K) a1), some (pV v428), some (pBl x430), some ((pL pStr) x436), some ((pL pInt) x440), some (pV v445), none, none, none, none, none, none], [⟨v445, (oL (pM (κ := Str) (pL pInt))) s_.1, none⟩, ⟨v428, (oL pInt) s_.2, none⟩])) (fun (b_ : (Unit × (Int × (List Int)))) => (x442, b_.2.2)) (i_rng1 m_range (x_kd (E := fun (b_ : (Unit × (Int × (List Int)))) => pInt b_.2.1) (x_ife (ΔS := fun (b_ : Unit) (s_ : (List Int)) => [⟨v445, (oL (pM (κ := Str) (pL pInt))) x442, none⟩, ⟨v428, (oL pInt) s_, none⟩]) (va := fun (b_ : Unit) (c_ : (Unit × ((Unit × Unit) × (Int × (List Int))))) => ((12 : Int) + (c_.2.2.1))) (sa := fun (b_ : Unit) (c_ : (Unit × ((Unit × Unit) × (Int × (List Int))))) => c_.2.2.2) (vb := fun (b_ : Unit) (c_ : ((Unit × Unit) × (Int × (List Int)))) => c_.2.1) (sb := fun (b_ : Unit) (c_ : ((Unit × Unit) × (Int × (List Int)))) => c_.2.2) pInt (t_kd (c := fun (b_ : Unit) => x430) (t_val (x_var (p := pBl x430) 2))) (fun (b446 : Unit) => x_kd (E := fun (b_ : (Unit × ((Unit × Unit) × (Int × (List Int))))) => pInt ((12 : Int) + (b_.2.2.1))) (x_add (x_int (i := 12)) (fun _ => x_kd (E := fun (b_ : ((Unit × Unit) × (Int × (List Int)))) => pInt b_.2.1) (x_OF_f (kk := 1) (E1 := (oL pInt)) (E2 := pInt) (s1 := fun (_ : Unit) (_ : Unit) => b441.2.2) (v1 := v428) k_l_next (hr.mono (by decide)) g_l_next F_l_next.kp b_l_next 1 (x_var (p := pV v428) 1) (fun _ => x_int (i := 13)) (fun _ _ => rfl))))) (fun (b446 : Unit) => x_kd (E := fun (b_ : ((Unit × Unit) × (Int × (List Int)))) => pInt b_.2.1) (x_OF_f (kk := 1) (E1 := (oL pInt)) (E2 := pInt) (s1 := fun (_ : Unit) (_ : Unit) => b441.2.2) (v1 := v428) k_l_next (hr.mono (by decide)) g_l_next F_l_next.kp b_l_next 1 (x_var (p := pV v428) 1) (fun _ => x_int (i := 6)) (fun _ _ => rfl))) (fun _ _ => rfl) (fun _ _ => rfl)))) (pg_name (i := 6) sc_law.nd rfl (by first | exact .inl rfl | exact .inr rfl)) (tg_name 6) (fun _ => ⟨rfl, rfl, rfl, rfl, rfl, rfl, trivial⟩) (fun _ => List.Sublist.refl _) (fun b450 x452 s451 => s_T (T := (M_l_drawn_sides (s451.2) x436 x440).bind fun r509 => grd ((s451.1).length < sizeLine) (some (((s451.1) ++ [r509.1]), r509.2))) (s_expr (x_app 0 (x_var (p := pV v445) 5) (fun _ => x_kd (E := fun (b_ : ((Unit × (Unit × Unit)) × ((List (Str × List Int)) × (List Int)))) => (pM (κ := Str) (pL pInt)) b_.2.1) (x_frz (o_kd (E := fun (b_ : ((Unit × (Unit × Unit)) × ((List (Str × List Int)) × (List Int)))) => (oM (κ := Str) (pL pInt)) b_.2.1) (x_OFF_o (kk := 2) (E1 := (oL pInt)) (E2 := (pL pStr)) (E3 := (pL pInt)) (s1 := fun (_ : Unit) (_ : Unit) (_ : Unit) => s451.2) (v1 := v428) k_l_drawn_sides (hr.mono (by decide)) g_l_drawn_sides F_l_drawn_sides.kp b_l_drawn_sides 1 (x_var (p := pV v428) 1) (fun _ => x_var (p := (pL pStr) x436) 3) (fun _ _ => x_var (p := (pL pInt) x440) 4) (fun _ _ _ => rfl))))) (fun _ => rfl) (fun _ _ => rfl)) fun (b510 : (Unit × ((Unit × (Unit × Unit)) × ((List (Str × List Int)) × (List Int))))) => s_end (((s451.1) ++ [b510.2.2.1]), b510.2.2.2) rfl ⟨rfl, rfl, rfl, rfl, rfl, rfl, trivial⟩ (List.Sublist.refl _))) fun b450 s453 => s_frz (i := 5) (c := ⟨v445, (oL (pM (κ := Str) (pL pInt))) s453.1, none⟩) 0 (s_T (T := (M_l_stream a1 (1 : Int)).bind fun r454 => (some (r454 : List Int)).bind fun x455 => ((if x430 = true then (M_l_next x455 (21 : Int)).bind fun r461 => some (((20 : Int) + (r461.1)), r461.2) else (M_l_next x455 (9 : Int)).bind fun r462 => some (r462.1, r462.2))).bind fun c463 => (some (c463.1 : Int)).bind fun x464 => (M_l_next (c463.2) (24 : Int)).bind fun r466 => (if (decide ((r466.1) = (23 : Int))) = true then (M_l_next (r466.2) (2 : Int)).bind fun r506 => (some (((300 : Int) + (r506.1)) : Int)).bind fun x507 => some (x507, r506.2) else some (x464, r466.2)).bind fun s468 => (M_l_good_steps (s468.2) x436 ((s453.1).length : Int) (s468.1)).bind fun r469 => (some (r469.1 : List (Str × Int × Int))).bind fun x470 => ((if (decide ((0 : Int) < ((s453.1).length : Int))) = true then (M_l_carried_out (s453.1) x470).bind fun r475 => some ((!r475), ()) else some (false, ()))).bind fun c476 => if c476.1 = true then some false else if (decide ((x470.length : Int) = (0 : Int))) = true then (M_l_carried_out (s453.1) x470).bind fun r479 => some r479 else (M_l_stream a1 (2 : Int)).bind fun r480 => (some (r480 : List Int)).bind fun x481 => if (decide (((s453.1).length : Int) = (0 : Int))) = true then (M_l_refused (s453.1) x470 (0 : Int)).bind fun r487 => some r487 else (M_l_next x481 (2 : Int)).bind fun r488 => if (decide ((r488.1) = (0 : Int))) = true then some true else (some ((x470.length : Int) : Int)).bind fun x490 => (M_l_next (r488.2) (2 : Int)).bind fun r492 => grd (rg ((1 : Int) + (r492.1)) = true) ((forS (rngL 0 ((1 : Int) + (r492.1)).toNat) ((x490, r492.2, x470) : Int × (List Int) × (List (Str × Int × Int))) fun x495 s494 => (M_l_next (s494.2.1) ((s494.2.2).length : Int)).bind fun r498 => (some (r498.1 : Int)).bind fun x499 => (atI (s494.2.2) x499).bind fun x501 => (M_l_bad_step (r498.2) x501 (((s453.1).length : Int) + x499)).bind fun r502 => (ixN (s494.2.2).length x499).bind fun (_ : Nat) => (some ((min (s494.1) x499) : Int)).bind fun x504 => some (x504, r502.2, ((s494.2.2).set ((ixN (s494.2.2).length x499).getD 0) (r502.1)))).bind fun s496 => (M_l_refused (s453.1) (s496.2.2) (s496.1)).bind fun r497 => some r497)) (s_letO (i := 1) (oL pInt) sc_law.nd (o_kd (E := fun (b_ : ((Unit × Unit) × (List Int))) => (oL pInt) b_.2) (x_FF_o (kk := 1) (E1 := (pS K)) (E2 := pInt) k_l_stream (hr.mono (by decide)) g_l_stream F_l_stream.kp b_l_stream (x_var (p := (pS K) a1) 0) (fun _ => x_int (i := 1)))) fun (b456 : ((Unit × Unit) × (List Int))) x455 v458 => s_T (T := ((if x430 = true then (M_l_next x455 (21 : Int)).bind fun r461 => some (((20 : Int) + (r461.1)), r461.2) else (M_l_next x455 (9 : Int)).bind fun r462 => some (r462.1, r462.2))).bind fun c463 => (some (c463.1 : Int)).bind fun x464 => (M_l_next (c463.2) (24 : Int)).bind fun r466 => (if (decide ((r466.1) = (23 : Int))) = true then (M_l_next (r466.2) (2 : Int)).bind fun r506 => (some (((300 : Int) + (r506.1)) : Int)).bind fun x507 => some (x507, r506.2) else some (x464, r466.2)).bind fun s468 => (M_l_good_steps (s468.2) x436 ((s453.1).length : Int) (s468.1)).bind fun r469 => (some (r469.1 : List (Str × Int × Int))).bind fun x470 => ((if (decide ((0 : Int) < ((s453.1).length : Int))) = true then (M_l_carried_out (s453.1) x470).bind fun r475 => some ((!r475), ()) else some (false, ()))).bind fun c476 => if c476.1 = true then some false else if (decide ((x470.length : Int) = (0 : Int))) = true then (M_l_carried_out (s453.1) x470).bind fun r479 => some r479 else (M_l_stream a1 (2 : Int)).bind fun r480 => (some (r480 : List Int)).bind fun x481 => if (decide (((s453.1).length : Int) = (0 : Int))) = true then (M_l_refused (s453.1) x470 (0 : Int)).bind fun r487 => some r487 else (M_l_next x481 (2 : Int)).bind fun r488 => if (decide ((r488.1) = (0 : Int))) = true then some true else (some ((x470.length : Int) : Int)).bind fun x490 => (M_l_next (r488.2) (2 : Int)).bind fun r492 => grd (rg ((1 : Int) + (r492.1)) = true) ((forS (rngL 0 ((1 : Int) + (r492.1)).toNat) ((x490, r492.2, x470) : Int × (List Int) × (List (Str × Int × Int))) fun x495 s494 => (M_l_next (s494.2.1) ((s494.2.2).length : Int)).bind fun r498 => (some (r498.1 : Int)).bind fun x499 => (atI (s494.2.2) x499).bind fun x501 => (M_l_bad_step (r498.2) x501 (((s453.1).length : Int) + x499)).bind fun r502 => (ixN (s494.2.2).length x499).bind fun (_ : Nat) => (some ((min (s494.1) x499) : Int)).bind fun x504 => some (x504, r502.2, ((s494.2.2).set ((ixN (s494.2.2).length x499).getD 0) (r502.1)))).bind fun s496 => (M_l_refused (s453.1) (s496.2.2) (s496.1)).bind fun r497 => some r497)) (s_let (i := 7) pInt sc_law.nd (x_kd (E := fun (b_ : (Unit × (Int × (List Int)))) => pInt b_.2.1) (x_ife (ΔS := fun (b_ : Unit) (s_ : (List Int)) => [⟨v458, (oL pInt) s_, none⟩, ⟨v428, (oL pInt) s453.2, none⟩]) (va := fun (b_ : Unit) (c_ : (Unit × ((Unit × Unit) × (Int × (List Int))))) => ((20 : Int) + (c_.2.2.1))) (sa := fun (b_ : Unit) (c_ : (Unit × ((Unit × Unit) × (Int × (List Int))))) => c_.2.2.2) (vb := fun (b_ : Unit) (c_ : ((Unit × Unit) × (Int × (List Int)))) => c_.2.1) (sb := fun (b_ : Unit) (c_ : ((Unit × Unit) × (Int × (List Int)))) => c_.2.2) pInt (t_kd (c := fun (b_ : Unit) => x430) (t_val (x_var (p := pBl x430) 2))) (fun (b460 : Unit) => x_kd (E := fun (b_ : (Unit × ((Unit × Unit) × (Int × (List Int))))) => pInt ((20 : Int) + (b_.2.2.1))) (x_add (x_int (i := 20)) (fun _ => x_kd (E := fun (b_ : ((Unit × Unit) × (Int × (List Int)))) => pInt b_.2.1) (x_OF_f (kk := 1) (E1 := (oL pInt)) (E2 := pInt) (s1 := fun (_ : Unit) (_ : Unit) => x455) (v1 := v458) k_l_next (hr.mono (by decide)) g_l_next F_l_next.kp b_l_next 0 (x_var (p := pV v458) 1) (fun _ => x_int (i := 21)) (fun _ _ => rfl))))) (fun (b460 : Unit) => x_kd (E := fun (b_ : ((Unit × Unit) × (Int × (List Int)))) => pInt b_.2.1) (x_OF_f (kk := 1) (E1 := (oL pInt)) (E2 := pInt) (s1 := fun (_ : Unit) (_ : Unit) => x455) (v1 := v458) k_l_next (hr.mono (by decide)) g_l_next F_l_next.kp b_l_next 0 (x_var (p := pV v458) 1) (fun _ => x_int (i := 9)) (fun _ _ => rfl))) (fun _ _ => rfl) (fun _ _ => rfl))) fun (b465 : (Unit × (Int × (List Int)))) x464 => s_T (T := (M_l_next (b465.2.2) (24 : Int)).bind fun r466 => (if (decide ((r466.1) = (23 : Int))) = true then (M_l_next (r466.2) (2 : Int)).bind fun r506 => (some (((300 : Int) + (r506.1)) : Int)).bind fun x507 => some (x507, r506.2) else some (x464, r466.2)).bind fun s468 => (M_l_good_steps (s468.2) x436 ((s453.1).length : Int) (s468.1)).bind fun r469 => (some (r469.1 : List (Str × Int × Int))).bind fun x470 => ((if (decide ((0 : Int) < ((s453.1).length : Int))) = true then (M_l_carried_out (s453.1) x470).bind fun r475 => some ((!r475), ()) else some (false, ()))).bind fun c476 => if c476.1 = true then some false else if (decide ((x470.length : Int) = (0 : Int))) = true then (M_l_carried_out (s453.1) x470).bind fun r479 => some r479 else (M_l_stream a1 (2 : Int)).bind fun r480 => (some (r480 : List Int)).bind fun x481 => if (decide (((s453.1).length : Int) = (0 : Int))) = true then (M_l_refused (s453.1) x470 (0 : Int)).bind fun r487 => some r487 else (M_l_next x481 (2 : Int)).bind fun r488 => if (decide ((r488.1) = (0 : Int))) = true then some true else (some ((x470.length : Int) : Int)).bind fun x490 => (M_l_next (r488.2) (2 : Int)).bind fun r492 => grd (rg ((1 : Int) + (r492.1)) = true) ((forS (rngL 0 ((1 : Int) + (r492.1)).toNat) ((x490, r492.2, x470) : Int × (List Int) × (List (Str × Int × Int))) fun x495 s494 => (M_l_next (s494.2.1) ((s494.2.2).length : Int)).bind fun r498 => (some (r498.1 : Int)).bind fun x499 => (atI (s494.2.2) x499).bind fun x501 => (M_l_bad_step (r498.2) x501 (((s453.1).length : Int) + x499)).bind fun r502 => (ixN (s494.2.2).length x499).bind fun (_ : Nat) => (some ((min (s494.1) x499) : Int)).bind fun x504 => some (x504, r502.2, ((s494.2.2).set ((ixN (s494.2.2).length x499).getD 0) (r502.1)))).bind fun s496 => (M_l_refused (s453.1) (s496.2.2) (s496.1)).bind fun r497 => some r497)) (s_ifN (C := fun s_ : Int × (List Int) => ([some ((pS K) a1), some (pV v458), some (pBl x430), some ((pL pStr) x436), some ((pL pInt) x440), some ((pL (pM (κ := Str) (pL pInt))) s453.1), none, some (pInt s_.1), none, none, none, none], [⟨v458, (oL pInt) s_.2, none⟩, ⟨v428, (oL pInt) s453.2, none⟩])) (t_kd (c := fun (b_ : (((Unit × Unit) × (Int × (List Int))) × Unit)) => (decide ((b_.1.2.1) = (23 : Int)))) (t_eqI (x_kd (E := fun (b_ : ((Unit × Unit) × (Int × (List Int)))) => pInt b_.2.1) (x_OF_f (kk := 1) (E1 := (oL pInt)) (E2 := pInt) (s1 := fun (_ : Unit) (_ : Unit) => b465.2.2) (v1 := v458) k_l_next (hr.mono (by decide)) g_l_next F_l_next.kp b_l_next 0 (x_var (p := pV v458) 1) (fun _ => x_int (i := 24)) (fun _ _ => rfl))) (fun _ => x_int (i := 23)))) (fun (b467 : (((Unit × Unit) × (Int × (List Int))) × Unit)) => s_T (T := (M_l_next (b467.1.2.2) (2 : Int)).bind fun r506 => (some (((300 : Int) + (r506.1)) : Int)).bind fun x507 => some (x507, r506.2)) (s_let (i := 7) pInt sc_law.nd (x_kd (E := fun (b_ : (Unit × ((Unit × Unit) × (Int × (List Int))))) => pInt ((300 : Int) + (b_.2.2.1))) (x_add (x_int (i := 300)) (fun _ => x_kd (E := fun (b_ : ((Unit × Unit) × (Int × (List Int)))) => pInt b_.2.1) (x_OF_f (kk := 1) (E1 := (oL pInt)) (E2 := pInt) (s1 := fun (_ : Unit) (_ : Unit) => b467.1.2.2) (v1 := v458) k_l_next (hr.mono (by decide)) g_l_next F_l_next.kp b_l_next 0 (x_var (p := pV v458) 1) (fun _ => x_int (i := 2)) (fun _ _ => rfl))))) fun (b508 : (Unit × ((Unit × Unit) × (Int × (List Int))))) x507 => s_end (x507, b508.2.2.2) rfl ⟨rfl, rfl, rfl, rfl, rfl, rfl, rfl, trivial⟩ (List.Sublist.refl _))) (fun (b467 : (((Unit × Unit) × (Int × (List Int))) × Unit)) => s_end (x464, b467.1.2.2) rfl ⟨rfl, rfl, rfl, rfl, rfl, rfl, rfl, trivial⟩ (List.Sublist.refl _)) fun (b467 : (((Unit × Unit) × (Int × (List Int))) × Unit)) s468 => s_T (T := (M_l_good_steps (s468.2) x436 ((s453.1).length : Int) (s468.1)).bind fun r469 => (some (r469.1 : List (Str × Int × Int))).bind fun x470 => ((if (decide ((0 : Int) < ((s453.1).length : Int))) = true then (M_l_carried_out (s453.1) x470).bind fun r475 => some ((!r475), ()) else some (false, ()))).bind fun c476 => if c476.1 = true then some false else if (decide ((x470.length : Int) = (0 : Int))) = true then (M_l_carried_out (s453.1) x470).bind fun r479 => some r479 else (M_l_stream a1 (2 : Int)).bind fun r480 => (some (r480 : List Int)).bind fun x481 => if (decide (((s453.1).length : Int) = (0 : Int))) = true then (M_l_refused (s453.1) x470 (0 : Int)).bind fun r487 => some r487 else (M_l_next x481 (2 : Int)).bind fun r488 => if (decide ((r488.1) = (0 : Int))) = true then some true else (some ((x470.length : Int) : Int)).bind fun x490 => (M_l_next (r488.2) (2 : Int)).bind fun r492 => grd (rg ((1 : Int) + (r492.1)) = true) ((forS (rngL 0 ((1 : Int) + (r492.1)).toNat) ((x490, r492.2, x470) : Int × (List Int) × (List (Str × Int × Int))) fun x495 s494 => (M_l_next (s494.2.1) ((s494.2.2).length : Int)).bind fun r498 => (some (r498.1 : Int)).bind fun x499 => (atI (s494.2.2) x499).bind fun x501 => (M_l_bad_step (r498.2) x501 (((s453.1).length : Int) + x499)).bind fun r502 => (ixN (s494.2.2).length x499).bind fun (_ : Nat) => (some ((min (s494.1) x499) : Int)).bind fun x504 => some (x504, r502.2, ((s494.2.2).set ((ixN (s494.2.2).length x499).getD 0) (r502.1)))).bind fun s496 => (M_l_refused (s453.1) (s496.2.2) (s496.1)).bind fun r497 => some r497)) (s_letO (i := 8) (oL (pT3 pStr pInt pInt)) sc_law.nd (o_kd (E := fun (b_ : ((Unit × (Unit × (Unit × Unit))) × ((List (Str × Int × Int)) × (List Int)))) => (oL (pT3 pStr pInt pInt)) b_.2.1) (x_OFFF_o (kk := 2) (E1 := (oL pInt)) (E2 := (pL pStr)) (E3 := pInt) (E4 := pInt) (s1 := fun (_ : Unit) (_ : Unit) (_ : Unit) (_ : Unit) => s468.2) (v1 := v458) k_l_good_steps (hr.mono (by decide)) g_l_good_steps F_l_good_steps.kp b_l_good_steps 0 (x_var (p := pV v458) 1) (fun _ => x_var (p := (pL pStr) x436) 3) (fun _ _ => x_kd (E := fun (b_ : Unit) => pInt ((s453.1).length : Int)) (x_lenL (Ee := (pM (κ := Str) (pL pInt))) m_len (x_var (p := (pL (pM (κ := Str) (pL pInt))) s453.1) 5) (fun _ => rdF))) (fun _ _ _ => x_var (p := pInt s468.1) 7) (fun _ _ _ _ => rfl))) fun (b471 : ((Unit × (Unit × (Unit × Unit))) × ((List (Str × Int × Int)) × (List Int)))) x470 v473 => s_T (T := ((if (decide ((0 : Int) < ((s453.1).length : Int))) = true then (M_l_carried_out (s453.1) x470).bind fun r475 => some ((!r475), ()) else some (false, ()))).bind fun c476 => if c476.1 = true then some false else if (decide ((x470.length : Int) = (0 : Int))) = true then (M_l_carried_out (s453.1) x470).bind fun r479 => some r479 else (M_l_stream a1 (2 : Int)).bind fun r480 => (some (r480 : List Int)).bind fun x481 => if (decide (((s453.1).length : Int) = (0 : Int))) = true then (M_l_refused (s453.1) x470 (0 : Int)).bind fun r487 => some r487 else (M_l_next x481 (2 : Int)).bind fun r488 => if (decide ((r488.1) = (0 : Int))) = true then some true else (some ((x470.length : Int) : Int)).bind fun x490 => (M_l_next (r488.2) (2 : Int)).bind fun r492 => grd (rg ((1 : Int) + (r492.1)) = true) ((forS (rngL 0 ((1 : Int) + (r492.1)).toNat) ((x490, r492.2, x470) : Int × (List Int) × (List (Str × Int × Int))) fun x495 s494 => (M_l_next (s494.2.1) ((s494.2.2).length : Int)).bind fun r498 => (some (r498.1 : Int)).bind fun x499 => (atI (s494.2.2) x499).bind fun x501 => (M_l_bad_step (r498.2) x501 (((s453.1).length : Int) + x499)).bind fun r502 => (ixN (s494.2.2).length x499).bind fun (_ : Nat) => (some ((min (s494.1) x499) : Int)).bind fun x504 => some (x504, r502.2, ((s494.2.2).set ((ixN (s494.2.2).length x499).getD 0) (r502.1)))).bind fun s496 => (M_l_refused (s453.1) (s496.2.2) (s496.1)).bind fun r497 => some r497)) (s_ifT (ins_F _) (t_kd (c := fun (b_ : ((Unit × Unit) × (Bool × Unit))) => b_.2.1) (PW.pt (w_andM (ΔS := fun (b_ : (Unit × Unit)) (s_ : Unit) => [⟨v473, (oL (pT3 pStr pInt pInt)) x470, none⟩, ⟨v458, (oL pInt) b471.2.2, none⟩, ⟨v428, (oL pInt) s453.2, none⟩]) (s1 := fun (b_ : (Unit × Unit)) => ()) (s2 := fun (b_ : (Unit × Unit)) (c_ : ((Unit × Unit) × Bool)) => ()) (t_kd (c := fun (b_ : (Unit × Unit)) => (decide ((0 : Int) < ((s453.1).length : Int)))) (t_gt (x_kd (E := fun (b_ : Unit) => pInt ((s453.1).length : Int)) (x_lenL (Ee := (pM (κ := Str) (pL pInt))) m_len (x_var (p := (pL (pM (κ := Str) (pL pInt))) s453.1) 5) (fun _ => rdF))) (fun _ => x_int (i := 0)))) (fun _ => w_and1 (t_kd (c := fun (b_ : ((Unit × Unit) × Bool)) => (!b_.2)) (t_not (t_kd (c := fun (b_ : ((Unit × Unit) × Bool)) => b_.2) (t_val (x_kd (E := fun (b_ : ((Unit × Unit) × Bool)) => pBl b_.2) (x_lockG (d := (oL (pT3 pStr pInt pInt)) x470) 0 8 feBl (x_FF_f (kk := 5) (E1 := (pL (pM (κ := Str) (pL pInt)))) (E2 := (pL (pT3 pStr pInt pInt))) k_l_carried_out (hr.mono (by decide)) g_l_carried_out F_l_carried_out.kp b_l_carried_out (x_var (p := (pL (pM (κ := Str) (pL pInt))) s453.1) 5) (fun _ => x_var (p := (pL (pT3 pStr pInt pInt)) x470) 8))))))))) (fun _ => rfl) (fun _ _ => rfl)))) (fun (b477 : ((Unit × Unit) × (Bool × Unit))) => s_T (T := some false) (s_ret (P := (fun _ => [])) (Rp := pBl) (ι := id) (rv := fun (b : Unit) => false) (fun _ _ _ h => h) x_bl (fun _ => .cons _ (.cons _ (.cons _ (.slnil)))))) fun (b477 : ((Unit × Unit) × (Bool × Unit))) => s_T (T := if (decide ((x470.length : Int) = (0 : Int))) = true then (M_l_carried_out (s453.1) x470).bind fun r479 => some r479 else (M_l_stream a1 (2 : Int)).bind fun r480 => (some (r480 : List Int)).bind fun x481 => if (decide (((s453.1).length : Int) = (0 : Int))) = true then (M_l_refused (s453.1) x470 (0 : Int)).bind fun r487 => some r487 else (M_l_next x481 (2 : Int)).bind fun r488 => if (decide ((r488.1) = (0 : Int))) = true then some true else (some ((x470.length : Int) : Int)).bind fun x490 => (M_l_next (r488.2) (2 : Int)).bind fun r492 => grd (rg ((1 : Int) + (r492.1)) = true) ((forS (rngL 0 ((1 : Int) + (r492.1)).toNat) ((x490, r492.2, x470) : Int × (List Int) × (List (Str × Int × Int))) fun x495 s494 => (M_l_next (s494.2.1) ((s494.2.2).length : Int)).bind fun r498 => (some (r498.1 : Int)).bind fun x499 => (atI (s494.2.2) x499).bind fun x501 => (M_l_bad_step (r498.2) x501 (((s453.1).length : Int) + x499)).bind fun r502 => (ixN (s494.2.2).length x499).bind fun (_ : Nat) => (some ((min (s494.1) x499) : Int)).bind fun x504 => some (x504, r502.2, ((s494.2.2).set ((ixN (s494.2.2).length x499).getD 0) (r502.1)))).bind fun s496 => (M_l_refused (s453.1) (s496.2.2) (s496.1)).bind fun r497 => some r497)) (s_ifT (ins_F _) (t_kd (c := fun (b_ : (Unit × Unit)) => (decide ((x470.length : Int) = (0 : Int)))) (t_eqI (x_kd (E := fun (b_ : Unit) => pInt (x470.length : Int)) (x_lenL (Ee := (pT3 pStr pInt pInt)) m_len (x_var (p := pV v473) 8) (fun _ => rdO 0))) (fun _ => x_int (i := 0)))) (fun (b478 : (Unit × Unit)) => s_frz (i := 8) (c := ⟨v473, (oL (pT3 pStr pInt pInt)) x470, none⟩) 0 (s_T (T := (M_l_carried_out (s453.1) x470).bind fun r479 => some r479) (s_ret (P := (fun _ => [])) (Rp := pBl) (ι := id) (rv := fun (b : ((Unit × Unit) × Bool)) => b.2) (fun _ _ _ h => h) (x_kd (x_kd (E := fun (b_ : ((Unit × Unit) × Bool)) => pBl b_.2) (x_FF_f (kk := 5) (E1 := (pL (pM (κ := Str) (pL pInt)))) (E2 := (pL (pT3 pStr pInt pInt))) k_l_carried_out (hr.mono (by decide)) g_l_carried_out F_l_carried_out.kp b_l_carried_out (x_var (p := (pL (pM (κ := Str) (pL pInt))) s453.1) 5) (fun _ => x_var (p := (pL (pT3 pStr pInt pInt)) x470) 8)))) (fun _ => .cons _ (.cons _ (.slnil)))))) fun (b478 : (Unit × Unit)) => s_T (T := (M_l_stream a1 (2 : Int)).bind fun r480 => (some (r480 : List Int)).bind fun x481 => if (decide (((s453.1).length : Int) = (0 : Int))) = true then (M_l_refused (s453.1) x470 (0 : Int)).bind fun r487 => some r487 else (M_l_next x481 (2 : Int)).bind fun r488 => if (decide ((r488.1) = (0 : Int))) = true then some true else (some ((x470.length : Int) : Int)).bind fun x490 => (M_l_next (r488.2) (2 : Int)).bind fun r492 => grd (rg ((1 : Int) + (r492.1)) = true) ((forS (rngL 0 ((1 : Int) + (r492.1)).toNat) ((x490, r492.2, x470) : Int × (List Int) × (List (Str × Int × Int))) fun x495 s494 => (M_l_next (s494.2.1) ((s494.2.2).length : Int)).bind fun r498 => (some (r498.1 : Int)).bind fun x499 => (atI (s494.2.2) x499).bind fun x501 => (M_l_bad_step (r498.2) x501 (((s453.1).length : Int) + x499)).bind fun r502 => (ixN (s494.2.2).length x499).bind fun (_ : Nat) => (some ((min (s494.1) x499) : Int)).bind fun x504 => some (x504, r502.2, ((s494.2.2).set ((ixN (s494.2.2).length x499).getD 0) (r502.1)))).bind fun s496 => (M_l_refused (s453.1) (s496.2.2) (s496.1)).bind fun r497 => some r497)) (s_letO (i := 1) (oL pInt) sc_law.nd (o_kd (E := fun (b_ : ((Unit × Unit) × (List Int))) => (oL pInt) b_.2) (x_FF_o (kk := 1) (E1 := (pS K)) (E2 := pInt) k_l_stream (hr.mono (by decide)) g_l_stream F_l_stream.kp b_l_stream (x_var (p := (pS K) a1) 0) (fun _ => x_int (i := 2)))) fun (b482 : ((Unit × Unit) × (List Int))) x481 v484 => s_T (T := if (decide (((s453.1).length : Int) = (0 : Int))) = true then (M_l_refused (s453.1) x470 (0 : Int)).bind fun r487 => some r487 else (M_l_next x481 (2 : Int)).bind fun r488 => if (decide ((r488.1) = (0 : Int))) = true then some true else (some ((x470.length : Int) : Int)).bind fun x490 => (M_l_next (r488.2) (2 : Int)).bind fun r492 => grd (rg ((1 : Int) + (r492.1)) = true) ((forS (rngL 0 ((1 : Int) + (r492.1)).toNat) ((x490, r492.2, x470) : Int × (List Int) × (List (Str × Int × Int))) fun x495 s494 => (M_l_next (s494.2.1) ((s494.2.2).length : Int)).bind fun r498 => (some (r498.1 : Int)).bind fun x499 => (atI (s494.2.2) x499).bind fun x501 => (M_l_bad_step (r498.2) x501 (((s453.1).length : Int) + x499)).bind fun r502 => (ixN (s494.2.2).length x499).bind fun (_ : Nat) => (some ((min (s494.1) x499) : Int)).bind fun x504 => some (x504, r502.2, ((s494.2.2).set ((ixN (s494.2.2).length x499).getD 0) (r502.1)))).bind fun s496 => (M_l_refused (s453.1) (s496.2.2) (s496.1)).bind fun r497 => some r497)) (s_ifT (ins_F _) (t_kd (c := fun (b_ : (Unit × Unit)) => (decide (((s453.1).length : Int) = (0 : Int)))) (t_eqI (x_kd (E := fun (b_ : Unit) => pInt ((s453.1).length : Int)) (x_lenL (Ee := (pM (κ := Str) (pL pInt))) m_len (x_var (p := (pL (pM (κ := Str) (pL pInt))) s453.1) 5) (fun _ => rdF))) (fun _ => x_int (i := 0)))) (fun (b486 : (Unit × Unit)) => s_frz (i := 8) (c := ⟨v473, (oL (pT3 pStr pInt pInt)) x470, none⟩) 1 (s_T (T := (M_l_refused (s453.1) x470 (0 : Int)).bind fun r487 => some r487) (s_ret (P := (fun _ => [])) (Rp := pBl) (ι := id) (rv := fun (b : ((Unit × (Unit × Unit)) × Bool)) => b.2) (fun _ _ _ h => h) (x_kd (x_kd (E := fun (b_ : ((Unit × (Unit × Unit)) × Bool)) => pBl b_.2) (x_FFF_f (kk := 6) (E1 := (pL (pM (κ := Str) (pL pInt)))) (E2 := (pL (pT3 pStr pInt pInt))) (E3 := pInt) k_l_refused (hr.mono (by decide)) g_l_refused F_l_refused.kp b_l_refused (x_var (p := (pL (pM (κ := Str) (pL pInt))) s453.1) 5) (fun _ => x_var (p := (pL (pT3 pStr pInt pInt)) x470) 8) (fun _ _ => x_int (i := 0))))) (fun _ => .cons _ (.cons _ (.cons _ (.slnil))))))) fun (b486 : (Unit × Unit)) => s_T (T := (M_l_next x481 (2 : Int)).bind fun r488 => if (decide ((r488.1) = (0 : Int))) = true then some true else (some ((x470.length : Int) : Int)).bind fun x490 => (M_l_next (r488.2) (2 : Int)).bind fun r492 => grd (rg ((1 : Int) + (r492.1)) = true) ((forS (rngL 0 ((1 : Int) + (r492.1)).toNat) ((x490, r492.2, x470) : Int × (List Int) × (List (Str × Int × Int))) fun x495 s494 => (M_l_next (s494.2.1) ((s494.2.2).length : Int)).bind fun r498 => (some (r498.1 : Int)).bind fun x499 => (atI (s494.2.2) x499).bind fun x501 => (M_l_bad_step (r498.2) x501 (((s453.1).length : Int) + x499)).bind fun r502 => (ixN (s494.2.2).length x499).bind fun (_ : Nat) => (some ((min (s494.1) x499) : Int)).bind fun x504 => some (x504, r502.2, ((s494.2.2).set ((ixN (s494.2.2).length x499).getD 0) (r502.1)))).bind fun s496 => (M_l_refused (s453.1) (s496.2.2) (s496.1)).bind fun r497 => some r497)) (s_ifT (ins_F _) (t_kd (c := fun (b_ : (((Unit × Unit) × (Int × (List Int))) × Unit)) => (decide ((b_.1.2.1) = (0 : Int)))) (t_eqI (x_kd (E := fun (b_ : ((Unit × Unit) × (Int × (List Int)))) => pInt b_.2.1) (x_OF_f (kk := 1) (E1 := (oL pInt)) (E2 := pInt) (s1 := fun (_ : Unit) (_ : Unit) => x481) (v1 := v484) k_l_next (hr.mono (by decide)) g_l_next F_l_next.kp b_l_next 0 (x_var (p := pV v484) 1) (fun _ => x_int (i := 2)) (fun _ _ => rfl))) (fun _ => x_int (i := 0)))) (fun (b489 : (((Unit × Unit) × (Int × (List Int))) × Unit)) => s_T (T := some true) (s_ret (P := (fun _ => [])) (Rp := pBl) (ι := id) (rv := fun (b : Unit) => true) (fun _ _ _ h => h) x_bl (fun _ => .cons _ (.cons _ (.cons _ (.cons _ (.slnil))))))) fun (b489 : (((Unit × Unit) × (Int × (List Int))) × Unit)) => s_T (T := (some ((x470.length : Int) : Int)).bind fun x490 => (M_l_next (b489.1.2.2) (2 : Int)).bind fun r492 => grd (rg ((1 : Int) + (r492.1)) = true) ((forS (rngL 0 ((1 : Int) + (r492.1)).toNat) ((x490, r492.2, x470) : Int × (List Int) × (List (Str × Int × Int))) fun x495 s494 => (M_l_next (s494.2.1) ((s494.2.2).length : Int)).bind fun r498 => (some (r498.1 : Int)).bind fun x499 => (atI (s494.2.2) x499).bind fun x501 => (M_l_bad_step (r498.2) x501 (((s453.1).length : Int) + x499)).bind fun r502 => (ixN (s494.2.2).length x499).bind fun (_ : Nat) => (some ((min (s494.1) x499) : Int)).bind fun x504 => some (x504, r502.2, ((s494.2.2).set ((ixN (s494.2.2).length x499).getD 0) (r502.1)))).bind fun s496 => (M_l_refused (s453.1) (s496.2.2) (s496.1)).bind fun r497 => some r497)) (s_let (i := 9) pInt sc_law.nd (x_kd (E := fun (b_ : Unit) => pInt (x470.length : Int)) (x_lenL (Ee := (pT3 pStr pInt pInt)) m_len (x_var (p := pV v473) 8) (fun _ => rdO 1))) fun (b491 : Unit) x490 => s_T (T := (M_l_next (b489.1.2.2) (2 : Int)).bind fun r492 => grd (rg ((1 : Int) + (r492.1)) = true) ((forS (rngL 0 ((1 : Int) + (r492.1)).toNat) ((x490, r492.2, x470) : Int × (List Int) × (List (Str × Int × Int))) fun x495 s494 => (M_l_next (s494.2.1) ((s494.2.2).length : Int)).bind fun r498 => (some (r498.1 : Int)).bind fun x499 => (atI (s494.2.2) x499).bind fun x501 => (M_l_bad_step (r498.2) x501 (((s453.1).length : Int) + x499)).bind fun r502 => (ixN (s494.2.2).length x499).bind fun (_ : Nat) => (some ((min (s494.1) x499) : Int)).bind fun x504 => some (x504, r502.2, ((s494.2.2).set ((ixN (s494.2.2).length x499).getD 0) (r502.1)))).bind fun s496 => (M_l_refused (s453.1) (s496.2.2) (s496.1)).bind fun r497 => some r497)) (s_forS PassesOwn.never (fun (b_ : (Unit × ((Unit × Unit) × (Int × (List Int))))) (s_ : Int × (List Int) × (List (Str × Int × Int))) => ([some ((pS K) a1), some (pV v484), some (pBl x430), some ((pL pStr) x436), some ((pL pInt) x440), some ((pL (pM (κ := Str) (pL pInt))) s453.1), none, some (pInt s468.1), some (pV v473), some (pInt s_.1), none, none], [⟨v484, (oL pInt) s_.2.1, none⟩, ⟨v473, (oL (pT3 pStr pInt pInt)) s_.2.2, none⟩, ⟨v458, (oL pInt) b471.2.2, none⟩, ⟨v428, (oL pInt) s453.2, none⟩])) (fun (b_ : (Unit × ((Unit × Unit) × (Int × (List Int))))) => (x490, b_.2.2.2, x470)) (i_rng1 m_range (x_kd (E := fun (b_ : (Unit × ((Unit × Unit) × (Int × (List Int))))) => pInt ((1 : Int) + (b_.2.2.1))) (x_add (x_int (i := 1)) (fun _ => x_kd (E := fun (b_ : ((Unit × Unit) × (Int × (List Int)))) => pInt b_.2.1) (x_OF_f (kk := 1) (E1 := (oL pInt)) (E2 := pInt) (s1 := fun (_ : Unit) (_ : Unit) => b489.1.2.2) (v1 := v484) k_l_next (hr.mono (by decide)) g_l_next F_l_next.kp b_l_next 0 (x_var (p := pV v484) 1) (fun _ => x_int (i := 2)) (fun _ _ => rfl)))))) (pg_name (i := 10) sc_law.nd rfl (by first | exact .inl rfl | exact .inr rfl)) (tg_name 10) (fun _ => ⟨rfl, rfl, rfl, rfl, rfl, rfl, rfl, rfl, rfl, trivial⟩) (fun _ => List.Sublist.refl _) (fun b493 x495 s494 => s_T (T := (M_l_next (s494.2.1) ((s494.2.2).length : Int)).bind fun r498 => (some (r498.1 : Int)).bind fun x499 => (atI (s494.2.2) x499).bind fun x501 => (M_l_bad_step (r498.2) x501 (((s453.1).length : Int) + x499)).bind fun r502 => (ixN (s494.2.2).length x499).bind fun (_ : Nat) => (some ((min (s494.1) x499) : Int)).bind fun x504 => some (x504, r502.2, ((s494.2.2).set ((ixN (s494.2.2).length x499).getD 0) (r502.1)))) (s_let (i := 11) pInt sc_law.nd (x_kd (E := fun (b_ : ((Unit × Unit) × (Int × (List Int)))) => pInt b_.2.1) (x_OF_f (kk := 1) (E1 := (oL pInt)) (E2 := pInt) (s1 := fun (_ : Unit) (_ : Unit) => s494.2.1) (v1 := v484) k_l_next (hr.mono (by decide)) g_l_next F_l_next.kp b_l_next 0 (x_var (p := pV v484) 1) (fun _ => x_kd (E := fun (b_ : Unit) => pInt ((s494.2.2).length : Int)) (x_lenL (Ee := (pT3 pStr pInt pInt)) m_len (x_var (p := pV v473) 8) (fun _ => rdO 1))) (fun _ _ => rfl))) fun (b500 : ((Unit × Unit) × (Int × (List Int)))) x499 => s_T (T := (atI (s494.2.2) x499).bind fun x501 => (M_l_bad_step (b500.2.2) x501 (((s453.1).length : Int) + x499)).bind fun r502 => (ixN (s494.2.2).length x499).bind fun (_ : Nat) => (some ((min (s494.1) x499) : Int)).bind fun x504 => some (x504, r502.2, ((s494.2.2).set ((ixN (s494.2.2).length x499).getD 0) (r502.1)))) (s_setL 1 (x_kd (E := fun (b_ : ((Unit × (((Unit × Unit) × (Str × Int × Int)) × (Unit × Unit))) × ((Str × Int × Int) × (List Int)))) => (pT3 pStr pInt pInt) b_.2.1) (x_OFF_f (kk := 2) (E1 := (oL pInt)) (E2 := (pT3 pStr pInt pInt)) (E3 := pInt) (s1 := fun (_ : Unit) (_ : ((Unit × Unit) × (Str × Int × Int))) (_ : (Unit × Unit)) => b500.2.2) (v1 := v484) k_l_bad_step (hr.mono (by decide)) g_l_bad_step F_l_bad_step.kp b_l_bad_step 0 (x_var (p := pV v484) 1) (fun _ => x_kd (E := fun (b_ : ((Unit × Unit) × (Str × Int × Int))) => (pT3 pStr pInt pInt) b_.2) (x_ixL (Ee := (pT3 pStr pInt pInt)) (x_var (p := pV v473) 8) (fun _ => x_var (p := pInt x499) 11) (fun _ _ => rdO 1))) (fun _ _ => x_kd (E := fun (b_ : (Unit × Unit)) => pInt (((s453.1).length : Int) + x499)) (x_add (x_kd (E := fun (b_ : Unit) => pInt ((s453.1).length : Int)) (x_lenL (Ee := (pM (κ := Str) (pL pInt))) m_len (x_var (p := (pL (pM (κ := Str) (pL pInt))) s453.1) 5) (fun _ => rdF))) (fun _ => x_var (p := pInt x499) 11))) (fun _ _ _ => rfl))) (fun _ => x_var (p := pV v473) 8) (fun _ _ => x_var (p := pInt x499) 11) (fun _ _ _ => rfl) fun (b503 : ((((Unit × (((Unit × Unit) × (Str × Int × Int)) × (Unit × Unit))) × ((Str × Int × Int) × (List Int))) × Unit) × Unit)) => s_T (T := (some ((min (s494.1) x499) : Int)).bind fun x504 => some (x504, b503.1.1.2.2, ((s494.2.2).set ((ixN (s494.2.2).length x499).getD 0) (b503.1.1.2.1)))) (s_let (i := 9) pInt sc_law.nd (x_kd (E := fun (b_ : (Unit × Unit)) => pInt (min (s494.1) x499)) (x_min2 m_min (x_var (p := pInt s494.1) 9) (fun _ => x_var (p := pInt x499) 11))) fun (b505 : (Unit × Unit)) x504 => s_end (x504, b503.1.1.2.2, ((s494.2.2).set ((ixN (s494.2.2).length x499).getD 0) (b503.1.1.2.1))) rfl ⟨rfl, rfl, rfl, rfl, rfl, rfl, rfl, rfl, rfl, trivial⟩ (List.Sublist.refl _))))) fun b493 s496 => s_frz (i := 8) (c := ⟨v473, (oL (pT3 pStr pInt pInt)) s496.2.2, none⟩) 1 (s_T (T := (M_l_refused (s453.1) (s496.2.2) (s496.1)).bind fun r497 => some r497) (s_ret (P := (fun _ => [])) (Rp := pBl) (ι := id) (rv := fun (b : ((Unit × (Unit × Unit)) × Bool)) => b.2) (fun _ _ _ h => h) (x_kd (x_kd (E := fun (b_ : ((Unit × (Unit × Unit)) × Bool)) => pBl b_.2) (x_FFF_f (kk := 6) (E1 := (pL (pM (κ := Str) (pL pInt)))) (E2 := (pL (pT3 pStr pInt pInt))) (E3 := pInt) k_l_refused (hr.mono (by decide)) g_l_refused F_l_refused.kp b_l_refused (x_var (p := (pL (pM (κ := Str) (pL pInt))) s453.1) 5) (fun _ => x_var (p := (pL (pT3 pStr pInt pInt)) s496.2.2) 8) (fun _ _ => x_var (p := pInt s496.1) 9)))) (fun _ => .cons _ (.cons _ (.cons _ (.slnil))))))))))))))))))))))))) (by unfold M_law; rfl)
end
end My
end
section
set_option Elab.async false
set_option linter.all false
set_option maxRecDepth 100000
namespace My
open PySem PySem.Spec PyProof.Rows L2 L3
/-! plain kit: an Option that is there, and what holds of it -/
def Wp {α : Type} (m : Option α) (Q : α → Prop) : Prop := ∃ a, m = some a ∧ Q a
section
variable {α β γ S ρ δ : Type}
theorem wp_some {a : α} {Q : α → Prop} (h : Q a) : Wp (some a) Q := ⟨a, rfl, h⟩
theorem wp_bind {m : Option α} {k : α → Option β} {Q : β → Prop} (h : Wp m fun a => Wp (k a) Q) : Wp (m.bind k) Q := by
  obtain ⟨a, e, b, e2, q⟩ := h
  exact ⟨b, by rw [e]; exact e2, q⟩
theorem wp_mono {m : Option α} {Q R : α → Prop} (h : Wp m Q) (f : ∀ a, Q a → R a) : Wp m R := by
  obtain ⟨a, e, q⟩ := h
  exact ⟨a, e, f a q⟩
/-- m's spec, then the rest -/
theorem wp_then {m : Option α} {k : α → Option β} {P : α → Prop} {Q : β → Prop} (h : Wp m P) (f : ∀ a, P a → Wp (k a) Q) : Wp (m.bind k) Q := wp_bind (wp_mono h f)
theorem wp_eq {m : Option α} {k : α → Option β} {a : α} {Q : β → Prop} (h : m = some a) (f : Wp (k a) Q) : Wp (m.bind k) Q := wp_bind ⟨a, h, f⟩
theorem wp_grd {c : Prop} [Decidable c] {m : Option α} {Q : α → Prop} (h : c) (f : Wp m Q) : Wp (grd c m) Q := by
  unfold grd
  rw [if_pos h]
  exact f
theorem wp_ite {c : Prop} [Decidable c] {m n : Option α} {Q : α → Prop} (h : c → Wp m Q) (f : ¬ c → Wp n Q) : Wp (if c then m else n) Q := by
  by_cases x : c
  · rw [if_pos x]; exact h x
  · rw [if_neg x]; exact f x
theorem wp_is {m : Option α} {a : α} (h : Wp m fun x => x = a) : m = some a := by
  obtain ⟨b, e, q⟩ := h
  rw [e, q]
theorem wp_of {m : Option α} {a : α} {Q : α → Prop} (h : m = some a) (q : Q a) : Wp m Q := ⟨a, h, q⟩
theorem gp {γ : Type} {c : Prop} [Decidable c] {x : Option γ} (h : c) : grd c x = x := if_pos h
/-- a loop: I of what has been walked -/
theorem wp_forS {f : α → S → Option S} {Q : S → Prop} (I : List α → S → Prop) : ∀ {xs : List α} {pre : List α} {s : S}, I pre s → (∀ p x t s, pre ++ xs = p ++ x :: t → I p s → Wp (f x s) (I (p ++ [x]))) → (∀ s, I (pre ++ xs) s → Q s) → Wp (forS xs s f) Q
  | [], pre, s, h0, _, hq => ⟨s, rfl, hq s (by simpa using h0)⟩
  | x :: xs, pre, s, h0, hs, hq => by
    obtain ⟨s1, e1, i1⟩ := hs pre x xs s rfl h0
    have ih := wp_forS (f := f) (Q := Q) I (xs := xs) (pre := pre ++ [x]) (s := s1) i1 (fun p y t s e => hs p y t s (by rw [← e]; simp)) (fun s hi => hq s (by simpa using hi))
    show Wp ((f x s).bind fun s' => forS xs s' f) Q
    exact wp_eq e1 ih
theorem wp_for {f : α → S → Option S} {Q : S → Prop} {xs : List α} {s : S} (I : List α → S → Prop) (h0 : I [] s) (hs : ∀ p x t s, xs = p ++ x :: t → I p s → Wp (f x s) (I (p ++ [x]))) (hq : ∀ s, I xs s → Q s) : Wp (forS xs s f) Q :=
  wp_forS (pre := []) I h0 (fun p x t s e => hs p x t s e) (fun s h => hq s h)
/-- .. that may end early: B what holds at a break, R what is returned -/
theorem wp_forLG {f : α → S → Option (Bo S (Tm S ρ))} {Q : Bo S ρ → Prop} (I : List α → S → Prop) : ∀ {xs : List α} {pre : List α} {s : S}, I pre s →
    (∀ p x t s, pre ++ xs = p ++ x :: t → I p s → Wp (f x s) fun o => match o with | .nx s' => I (p ++ [x]) s' | .tm (.ct s') => I (p ++ [x]) s' | .tm (.bk s') => Q (.nx s') | .tm (.rt r) => Q (.tm r)) → (∀ s, I (pre ++ xs) s → Q (.nx s)) → Wp (forL xs s f) Q
  | [], pre, s, h0, _, hq => ⟨.nx s, rfl, hq s (by simpa using h0)⟩
  | x :: xs, pre, s, h0, hs, hq => by
    obtain ⟨o, e1, i1⟩ := hs pre x xs s rfl h0
    have go : ∀ s1, I (pre ++ [x]) s1 → Wp (forL xs s1 f) Q := fun s1 i1 => wp_forLG I (xs := xs) (pre := pre ++ [x]) (s := s1) i1 (fun p y t s e => hs p y t s (by rw [← e]; simp)) (fun s hi => hq s (by simpa using hi))
    show Wp ((f x s).bind _) Q
    refine wp_eq e1 ?_
    match o, i1 with
    | .nx s', i1 => exact go s' i1
    | .tm (.ct s'), i1 => exact go s' i1
    | .tm (.bk s'), i1 => exact ⟨_, rfl, i1⟩
    | .tm (.rt r), i1 => exact ⟨_, rfl, i1⟩
theorem wp_forL {f : α → S → Option (Bo S (Tm S ρ))} {Q : Bo S ρ → Prop} {xs : List α} {s : S} (I : List α → S → Prop) (h0 : I [] s)
    (hs : ∀ p x t s, xs = p ++ x :: t → I p s → Wp (f x s) fun o => match o with | .nx s' => I (p ++ [x]) s' | .tm (.ct s') => I (p ++ [x]) s' | .tm (.bk s') => Q (.nx s') | .tm (.rt r) => Q (.tm r)) (hq : ∀ s, I xs s → Q (.nx s)) : Wp (forL xs s f) Q :=
  wp_forLG (pre := []) I h0 (fun p x t s e => hs p x t s e) (fun s h => hq s h)
/-- a comprehension without effects -/
theorem compM_pure {f : α → S → Option (Option δ × S)} {g : α → Option δ} {s : S} : ∀ {xs : List α}, (∀ x ∈ xs, f x s = some (g x, s)) → compM xs s f = some (xs.filterMap g, s)
  | [], _ => rfl
  | x :: xs, h => by
    have ih := compM_pure (f := f) (g := g) (s := s) (xs := xs) fun y hy => h y (List.mem_cons_of_mem _ hy)
    unfold compM
    rw [h x List.mem_cons_self]
    simp only [Option.bind_some]
    rw [ih]
    simp only [Option.bind_some, List.filterMap_cons]
    cases g x <;> rfl
theorem filterMap_some {α δ : Type} {g : α → δ} : ∀ xs : List α, xs.filterMap (fun x => some (g x)) = xs.map g
  | [] => rfl
  | x :: xs => by rw [List.filterMap_cons]; simp [filterMap_some xs]
/-- .. with effects -/
theorem wp_compM {f : α → S → Option (Option δ × S)} {Q : List δ × S → Prop} (I : List α → List δ → S → Prop) : ∀ {xs : List α} {pre : List α} {out : List δ} {s : S}, I pre out s → (∀ p x t o s, pre ++ xs = p ++ x :: t → I p o s → Wp (f x s) fun r => I (p ++ [x]) (o ++ r.1.toList) r.2) → (∀ r : List δ × S, I (pre ++ xs) (out ++ r.1) r.2 → Q r) → Wp (compM xs s f) Q
  | [], pre, out, s, h0, _, hq => ⟨([], s), rfl, hq ([], s) (by simpa using h0)⟩
  | x :: xs, pre, out, s, h0, hs, hq => by
    obtain ⟨⟨o1, s1⟩, e1, i1⟩ := hs pre x xs out s rfl h0
    obtain ⟨r, e2, q2⟩ := wp_compM (f := f) (Q := fun r => Q (o1.toList ++ r.1, r.2)) I (xs := xs) (pre := pre ++ [x]) (out := out ++ o1.toList) (s := s1) i1 (fun p y t o s e => hs p y t o s (by rw [← e]; simp)) (fun r hi => hq (o1.toList ++ r.1, r.2) (by simpa using hi))
    refine ⟨(o1.toList ++ r.1, r.2), ?_, q2⟩
    unfold compM
    rw [e1]
    simp only [Option.bind_some]
    rw [e2]
    cases o1 <;> rfl
/-- .. one for each, with P -/
theorem wp_compA {f : α → S → Option (Option δ × S)} {Q : List δ × S → Prop} {xs : List α} {s : S} (J : S → Prop) (P : δ → Prop) (h0 : J s) (hs : ∀ x ∈ xs, ∀ s, J s → Wp (f x s) fun r => ∃ y, r.1 = some y ∧ P y ∧ J r.2) (hq : ∀ ys s, ys.length = xs.length → (∀ y ∈ ys, P y) → J s → Q (ys, s)) : Wp (compM xs s f) Q :=
  wp_compM (fun p o s => o.length = p.length ∧ (∀ y ∈ o, P y) ∧ J s) (pre := []) (out := []) ⟨rfl, (fun _ h => absurd h List.not_mem_nil), h0⟩ (fun p x t o s e ⟨hl, hp, hj⟩ => wp_mono (hs x (by rw [show xs = p ++ x :: t from e]; simp) s hj) fun r ⟨y, e1, e2, e3⟩ => ⟨by rw [e1]; simp [hl], fun z hz => by
    rw [e1] at hz
    rcases List.mem_append.mp hz with h | h
    · exact hp z h
    · simp at h; subst h; exact e2, e3⟩) fun r ⟨hl, hp, hj⟩ => hq r.1 r.2 hl hp hj
/-- .. some of them, with P -/
theorem wp_compF {f : α → S → Option (Option δ × S)} {Q : List δ × S → Prop} {xs : List α} {s : S} (J : S → Prop) (P : δ → Prop) (h0 : J s) (hs : ∀ x ∈ xs, ∀ s, J s → Wp (f x s) fun r => (∀ y, r.1 = some y → P y) ∧ J r.2) (hq : ∀ ys s, ys.length ≤ xs.length → (∀ y ∈ ys, P y) → J s → Q (ys, s)) : Wp (compM xs s f) Q :=
  wp_compM (fun p o s => o.length ≤ p.length ∧ (∀ y ∈ o, P y) ∧ J s) (pre := []) (out := []) ⟨Nat.le_refl _, (fun _ h => absurd h List.not_mem_nil), h0⟩ (fun p x t o s e ⟨hl, hp, hj⟩ => wp_mono (hs x (by rw [show xs = p ++ x :: t from e]; simp) s hj) fun r ⟨e2, e3⟩ => ⟨by
    cases h : r.1 <;> simp <;> omega, fun z hz => by
    rcases List.mem_append.mp hz with h | h
    · exact hp z h
    · cases h1 : r.1 with
      | none => rw [h1] at h; simp at h
      | some y => rw [h1] at h; simp at h; subst h; exact e2 _ h1, e3⟩) fun r ⟨hl, hp, hj⟩ => hq r.1 r.2 hl hp hj
/-- a while, by a measure -/
theorem wp_whL {f : S → Option (Option (Bo S (Tm S ρ)))} {Q : Bo S ρ → Prop} (I : S → Prop) (μ : S → Nat) : ∀ {n : Nat} {s : S}, I s → μ s < n →
    (∀ s, I s → Wp (f s) fun o => match o with | none => Q (.nx s) | some (.nx s') => I s' ∧ μ s' < μ s | some (.tm (.ct s')) => I s' ∧ μ s' < μ s | some (.tm (.bk s')) => Q (.nx s') | some (.tm (.rt r)) => Q (.tm r)) → Wp (whL n f s) Q
  | 0, s, _, h, _ => absurd h (Nat.not_lt_zero _)
  | n + 1, s, h0, hm, hs => by
    obtain ⟨o, e1, i1⟩ := hs s h0
    show Wp ((f s).bind _) Q
    refine wp_eq e1 ?_
    match o, i1 with
    | none, i1 => exact ⟨_, rfl, i1⟩
    | some (.nx s'), i1 => exact wp_whL I μ i1.1 (by omega) hs
    | some (.tm (.ct s')), i1 => exact wp_whL I μ i1.1 (by omega) hs
    | some (.tm (.bk s')), i1 => exact ⟨_, rfl, i1⟩
    | some (.tm (.rt r)), i1 => exact ⟨_, rfl, i1⟩
end
theorem sz : sizeLine = 16777216 := rfl
theorem sb : scanBound = 4096 := rfl
/-! indices -/
theorem atI_get {α : Type} {xs : List α} {i : Int} (h0 : 0 ≤ i) (h : i.toNat < xs.length) : atI xs i = some (xs[i.toNat]'h) := by
  unfold atI ixN
  rw [if_pos h0, if_pos (by omega)]
  simp [List.getElem?_eq_getElem h]
theorem wp_at {α : Type} {xs : List α} {i : Int} {Q : α → Prop} (h0 : 0 ≤ i) (h : i < xs.length) (q : ∀ x, x ∈ xs → xs[i.toNat]? = some x → Q x) : Wp (atI xs i) Q :=
  ⟨_, atI_get h0 (by omega), q _ (List.getElem_mem _) (List.getElem?_eq_getElem (by omega))⟩
theorem atI_last {α : Type} {s : List α} {y : α} : atI (s ++ [y]) (-(1 : Int)) = some y := by
  unfold atI ixN
  rw [if_neg (by decide), if_pos (by rw [List.length_append]; simp only [List.length_singleton]; omega)]
  simp only [Option.bind_some]
  rw [List.length_append, List.length_singleton, show ((-1 : Int) + ((s.length + 1 : Nat) : Int)).toNat = s.length by omega]
  simp
theorem rngL_mem {lo : Int} {n : Nat} {x : Int} : x ∈ rngL lo n ↔ lo ≤ x ∧ x < lo + n := by
  unfold rngL
  simp only [List.mem_map, List.mem_range]
  constructor
  · rintro ⟨i, h, rfl⟩; omega
  · intro h; exact ⟨(x - lo).toNat, by omega, by omega⟩
theorem mem_split {α : Type} {xs p t : List α} {x : α} (h : xs = p ++ x :: t) : x ∈ xs := by rw [h]; simp
theorem rngL_split {lo : Int} {n : Nat} {p t : List Int} {x : Int} (h : rngL lo n = p ++ x :: t) : x = lo + p.length ∧ p.length < n := by
  have hl := congrArg List.length h
  rw [rngL_len, List.length_append, List.length_cons] at hl
  have e := congrArg (fun l => l[p.length]?) h
  simp only [List.getElem?_append_right (Nat.le_refl _), Nat.sub_self, List.getElem?_cons_zero] at e
  unfold rngL at e
  rw [List.getElem?_map, List.getElem?_range (by omega)] at e
  simp only [Option.map_some, Option.some.injEq] at e
  exact ⟨e.symm, by omega⟩
/-! lists -/
theorem sub_len {α : Type} [DecidableEq α] : ∀ {xs ys : List α}, xs.Nodup → (∀ x ∈ xs, x ∈ ys) → xs.length ≤ ys.length
  | [], _, _, _ => Nat.zero_le _
  | x :: xs, ys, nd, h => by
    rw [List.nodup_cons] at nd
    have hx := h x List.mem_cons_self
    have := sub_len (xs := xs) (ys := ys.erase x) nd.2 (fun y hy => (List.mem_erase_of_ne (fun e => nd.1 (by rw [← e]; exact hy))).mpr (h y (List.mem_cons_of_mem _ hy)))
    rw [List.length_erase_of_mem hx] at this
    have := List.length_pos_of_mem hx
    rw [List.length_cons]
    omega
theorem filter_lt {α : Type} {p q : α → Bool} : ∀ {l : List α}, (∀ x ∈ l, q x = true → p x = true) → (∃ x ∈ l, p x = true ∧ q x = false) → (l.filter q).length < (l.filter p).length
  | [], _, ⟨_, h, _⟩ => nomatch h
  | x :: l, h, ⟨y, hy, h1, h2⟩ => by
    have hle : ∀ {l : List α}, (∀ x ∈ l, q x = true → p x = true) → (l.filter q).length ≤ (l.filter p).length := fun {l} h => by
      rw [← List.countP_eq_length_filter, ← List.countP_eq_length_filter]
      exact List.countP_mono_left h
    have ht : ∀ z ∈ l, q z = true → p z = true := fun z hz => h z (List.mem_cons_of_mem _ hz)
    rw [List.filter_cons, List.filter_cons]
    rcases List.mem_cons.mp hy with e | hy
    · subst e
      rw [h1, h2]
      simp only [if_pos, Bool.false_eq_true, if_false, List.length_cons]
      have := hle ht
      omega
    · have ih := filter_lt ht ⟨y, hy, h1, h2⟩
      have hx := h x List.mem_cons_self
      cases hq : q x <;> cases hp : p x
      · simpa using ih
      · simp; omega
      · rw [hx hq] at hp; cases hp
      · simp; omega
end My
end
section
set_option Elab.async false
set_option linter.all false
set_option maxRecDepth 100000
namespace My
open PySem PySem.Spec PyProof.Rows L2 L3
/-! dicts -/
section
variable {κ α : Type} [DecidableEq κ]
abbrev keys (d : List (κ × α)) : List κ := d.map Prod.fst
theorem dget_nil {k : κ} : dget ([] : List (κ × α)) k = none := rfl
theorem dget_cons {p : κ × α} {d : List (κ × α)} {k : κ} : dget (p :: d) k = if p.1 = k then some p.2 else dget d k := by
  by_cases h : p.1 = k
  · rw [if_pos h, dget_pos h]
  · rw [if_neg h, dget_neg h]
theorem dget_none {k : κ} : ∀ {d : List (κ × α)}, dget d k = none ↔ k ∉ keys d
  | [] => by simp [dget_nil]
  | p :: d => by
    rw [dget_cons]
    show _ ↔ k ∉ p.1 :: keys d
    rw [List.mem_cons]
    by_cases h : p.1 = k
    · rw [if_pos h]; simp [h]
    · rw [if_neg h, dget_none]
      simp only [not_or]
      exact ⟨fun x => ⟨fun e => h e.symm, x⟩, fun x => x.2⟩
theorem dget_some {k : κ} {d : List (κ × α)} (h : k ∈ keys d) : ∃ v, dget d k = some v := by
  cases e : dget d k with
  | none => exact absurd h (dget_none.mp e)
  | some v => exact ⟨v, rfl⟩
theorem dget_key {k : κ} {d : List (κ × α)} {v : α} (h : dget d k = some v) : k ∈ keys d := by
  by_cases x : k ∈ keys d
  · exact x
  · rw [dget_none.mpr x] at h; cases h
theorem dget_mem {k : κ} {v : α} : ∀ {d : List (κ × α)}, dget d k = some v → (k, v) ∈ d
  | [], h => by rw [dget_nil] at h; cases h
  | p :: d, h => by
    rw [dget_cons] at h
    by_cases e : p.1 = k
    · rw [if_pos e] at h; cases h; subst e; exact List.mem_cons_self
    · rw [if_neg e] at h; exact List.mem_cons_of_mem _ (dget_mem h)
theorem mem_dget {k : κ} {v : α} : ∀ {d : List (κ × α)}, (keys d).Nodup → (k, v) ∈ d → dget d k = some v
  | [], _, h => nomatch h
  | p :: d, nd, h => by
    have nd : (p.1 :: keys d).Nodup := nd
    rw [List.nodup_cons] at nd
    rw [dget_cons]
    rcases List.mem_cons.mp h with e | h
    · subst e; rw [if_pos rfl]
    · rw [if_neg (fun e => nd.1 (by rw [e]; exact List.mem_map.mpr ⟨(k, v), h, rfl⟩))]
      exact mem_dget nd.2 h
theorem dhas_iff {k : κ} {d : List (κ × α)} : dhas d k = true ↔ k ∈ keys d := by
  unfold dhas
  rw [List.any_eq_true, List.mem_map]
  simp only [decide_eq_true_eq]
theorem dhas_not {k : κ} {d : List (κ × α)} : dhas d k = false ↔ k ∉ keys d := by
  rw [← dhas_iff]; simp
theorem dput_old {d : List (κ × α)} {k : κ} {v : α} (h : k ∈ keys d) : dput d k v = d.map (fun p => if p.1 = k then (p.1, v) else p) := by
  have := dhas_iff.mpr h
  unfold dhas at this
  unfold dput
  rw [if_pos this]
theorem dput_new {d : List (κ × α)} {k : κ} {v : α} (h : k ∉ keys d) : dput d k v = d ++ [(k, v)] := by
  have := dhas_not.mpr h
  unfold dhas at this
  unfold dput
  rw [if_neg (by rw [this]; decide)]
theorem keys_put_old {d : List (κ × α)} {k : κ} {v : α} (h : k ∈ keys d) : keys (dput d k v) = keys d := by
  rw [dput_old h]
  unfold keys
  rw [List.map_map]
  apply List.map_congr_left
  intro p _
  simp only [Function.comp]
  split <;> rfl
theorem keys_put_new {d : List (κ × α)} {k : κ} {v : α} (h : k ∉ keys d) : keys (dput d k v) = keys d ++ [k] := by
  rw [dput_new h]; unfold keys; rw [List.map_append]; rfl
theorem mem_keys_put {d : List (κ × α)} {k j : κ} {v : α} : j ∈ keys (dput d k v) ↔ j ∈ keys d ∨ j = k := by
  by_cases h : k ∈ keys d
  · rw [keys_put_old h]
    exact ⟨.inl, fun x => x.elim id fun e => by rw [e]; exact h⟩
  · rw [keys_put_new h, List.mem_append, List.mem_singleton]
theorem nodup_put {d : List (κ × α)} {k : κ} {v : α} (nd : (keys d).Nodup) : (keys (dput d k v)).Nodup := by
  by_cases h : k ∈ keys d
  · rw [keys_put_old h]; exact nd
  · rw [keys_put_new h]
    refine List.nodup_append.mpr ⟨nd, List.nodup_cons.mpr ⟨List.not_mem_nil, List.nodup_nil⟩, fun a ha b hb e => h ?_⟩
    rw [List.mem_singleton] at hb
    rw [← hb, ← e]; exact ha
theorem get_map_put {k j : κ} {v : α} : ∀ {d : List (κ × α)}, dget (d.map (fun p => if p.1 = k then (p.1, v) else p)) j = if j = k then (dget d j).map (fun _ => v) else dget d j
  | [] => by simp [dget_nil]
  | p :: d => by
    rw [List.map_cons, dget_cons, dget_cons, get_map_put (d := d)]
    by_cases h : p.1 = k
    · rw [if_pos h]
      by_cases h2 : j = k
      · rw [if_pos h2]; simp [h, h2]
      · rw [if_neg h2]; simp only [h]
        rw [if_neg (fun e => h2 e.symm)]
        rw [if_neg h2, if_neg (fun e => h2 e.symm)]
    · rw [if_neg h]
      by_cases h3 : p.1 = j
      · have h2 : ¬ j = k := fun e => h (by rw [h3, e])
        simp [h3, h2]
      · simp [h3]
theorem get_app {j : κ} {e : List (κ × α)} : ∀ {d : List (κ × α)}, dget (d ++ e) j = (dget d j).orElse fun _ => dget e j
  | [] => rfl
  | p :: d => by
    rw [List.cons_append, dget_cons, dget_cons, get_app (d := d)]
    split <;> rfl
theorem get_put_same {d : List (κ × α)} {k : κ} {v : α} : dget (dput d k v) k = some v := by
  by_cases h : k ∈ keys d
  · rw [dput_old h, get_map_put, if_pos rfl]
    obtain ⟨u, e⟩ := dget_some h
    rw [e]; rfl
  · rw [dput_new h, get_app, dget_none.mpr h]
    show dget [(k, v)] k = _
    rw [dget_cons, if_pos rfl]
theorem get_put_ne {d : List (κ × α)} {k j : κ} {v : α} (hj : j ≠ k) : dget (dput d k v) j = dget d j := by
  by_cases h : k ∈ keys d
  · rw [dput_old h, get_map_put, if_neg hj]
  · rw [dput_new h, get_app]
    cases e : dget d j with
    | some u => rfl
    | none =>
      show dget [(k, v)] j = none
      rw [dget_cons, if_neg (fun e => hj e.symm)]
      rfl
theorem get_put {d : List (κ × α)} {k j : κ} {v : α} : dget (dput d k v) j = if j = k then some v else dget d j := by
  by_cases h : j = k
  · rw [if_pos h, h, get_put_same]
  · rw [if_neg h, get_put_ne h]
theorem wp_dget {d : List (κ × α)} {k : κ} {Q : α → Prop} (h : k ∈ keys d) (q : ∀ v, dget d k = some v → Q v) : Wp (dget d k) Q := by
  obtain ⟨v, e⟩ := dget_some h
  exact ⟨v, e, q v e⟩
/-- the values, by the keys -/
theorem vals_of {d : List (κ × α)} (nd : (keys d).Nodup) : (keys d).filterMap (dget d) = d.map Prod.snd := by
  unfold keys
  rw [List.filterMap_map]
  have : ∀ (l : List (κ × α)), (∀ p ∈ l, p ∈ d) → l.filterMap (dget d ∘ Prod.fst) = l.map Prod.snd := by
    intro l
    induction l with
    | nil => intro _; rfl
    | cons p l ih =>
      intro h
      rw [List.filterMap_cons, List.map_cons]
      simp only [Function.comp]
      rw [mem_dget nd (show (p.1, p.2) ∈ d from h p List.mem_cons_self)]
      simp only
      rw [← ih fun q hq => h q (List.mem_cons_of_mem _ hq)]
  exact this d fun _ h => h
theorem deq_self [DecidableEq α] {d : List (κ × α)} (nd : (keys d).Nodup) : deq d d = true := by
  unfold deq
  simp only [beq_self_eq_true, Bool.true_and, List.all_eq_true, decide_eq_true_eq]
  exact fun p hp => mem_dget nd hp
end
end My
end
section
set_option Elab.async false
set_option linter.all false
set_option maxRecDepth 100000
namespace My
open PySem PySem.Spec PyProof.Rows L2 L3
/-! what is drawn -/
def Stm (s : List Int) : Prop := ∃ a b c, s = [a, b, c]
theorem next_wp {s : List Int} {n : Int} (hs : Stm s) (h0 : 0 < n) (h1 : n < 1073741824) : Wp (M_l_next s n) fun r => 0 ≤ r.1 ∧ r.1 < n ∧ Stm r.2 := by
  obtain ⟨a, b, c, rfl⟩ := hs
  have e0 : atI [a, b, c] (1 : Int) = some b := rfl
  have e1 : ixN [a, b, c].length (1 : Int) = some 1 := rfl
  have hdv : dv n = true := by unfold dv; simp; omega
  unfold M_l_next
  rw [e0, e1]
  simp only [Option.bind_some, Option.getD_some, List.set]
  have e2 : atI [a, b + 1, c] (0 : Int) = some a := rfl
  have e3 : atI [a, b + 1, c] (2 : Int) = some c := rfl
  have e4 : atI [a, b + 1, c] (1 : Int) = some (b + 1) := rfl
  have e5 : ixN [a, b + 1, c].length (0 : Int) = some 0 := rfl
  rw [e2, e3, e4, e5]
  simp only [Option.bind_some, Option.getD_some, List.set]
  by_cases h : 0 < a
  · rw [if_pos (by simpa using h), gp h0, gp hdv]
    exact ⟨_, rfl, Int.emod_nonneg _ (by omega), Int.emod_lt_of_pos _ h0, ⟨_, _, _, rfl⟩⟩
  · rw [if_neg (by simpa using h)]
    rw [gp (by rfl), gp (by decide), gp, gp (by decide), gp, gp (by rfl), gp (by decide), gp (by rfl), gp h0]
    · exact ⟨_, rfl, Int.emod_nonneg _ (by omega), Int.emod_lt_of_pos _ h0, ⟨_, _, _, rfl⟩⟩
    · have := Int.emod_nonneg (((c + 7919 * (b + 1) + 13) % 2147483647) * ((c + 7919 * (b + 1) + 13) % 2147483647 + 48271)) (b := 2147483629) (by decide)
      have := Int.emod_lt_of_pos (((c + 7919 * (b + 1) + 13) % 2147483647) * ((c + 7919 * (b + 1) + 13) % 2147483647 + 48271)) (b := 2147483629) (by decide)
      unfold sm
      simp
      omega
    · have := Int.emod_nonneg (c + 7919 * (b + 1) + 13) (b := 2147483647) (by decide)
      have := Int.emod_lt_of_pos (c + 7919 * (b + 1) + 13) (b := 2147483647) (by decide)
      unfold sm
      simp
      omega
theorem stream_wp {xs : List Int} {k : Int} (hk : 0 ≤ k) : Wp (M_l_stream xs k) Stm := by
  unfold M_l_stream
  simp only [Option.bind_some]
  by_cases h : k < (xs.length : Int)
  · rw [if_pos (by simpa using h), atI_get hk (by omega)]
    simp only [Option.bind_some]
    rw [gp]
    · exact ⟨_, rfl, _, _, _, rfl⟩
    · rw [Bool.or_eq_true]
      right
      split <;> rfl
  · rw [if_neg (by simpa using h)]
    simp only [Option.bind_some]
    rw [gp]
    · exact ⟨_, rfl, _, _, _, rfl⟩
    · rfl
/-- one more draw, then the rest -/
theorem wp_next {β : Type} {s : List Int} {n : Int} {k : Int × List Int → Option β} {Q : β → Prop} (hs : Stm s) (h0 : 0 < n) (h1 : n < 1073741824) (f : ∀ r t, 0 ≤ r → r < n → Stm t → Wp (k (r, t)) Q) : Wp ((M_l_next s n).bind k) Q :=
  wp_then (next_wp hs h0 h1) fun r h => f r.1 r.2 h.1 h.2.1 h.2.2
theorem wp_stream {β : Type} {xs : List Int} {i : Int} {k : List Int → Option β} {Q : β → Prop} (hk : 0 ≤ i) (f : ∀ t, Stm t → Wp (k t) Q) : Wp ((M_l_stream xs i).bind k) Q :=
  wp_then (stream_wp hk) f
theorem wp_let {α β : Type} {a : α} {k : α → Option β} {Q : β → Prop} (h : Wp (k a) Q) : Wp ((some a).bind k) Q := h
theorem sm_lt {i : Int} (h1 : -(2 ^ 64) < i) (h2 : i < 2 ^ 64) : sm i = true := by unfold sm; rw [Bool.and_eq_true]; exact ⟨decide_eq_true h1, decide_eq_true h2⟩
theorem rg_lt {i : Int} (h1 : -1000000 ≤ i) (h2 : i ≤ 16777216) : rg i = true := by unfold rg; rw [Bool.and_eq_true]; exact ⟨decide_eq_true (by omega), decide_eq_true h2⟩
/-- strings -/
theorem len_app (x y : Str) : (x ++ y).length = x.length + y.length := by
  show (x.cps ++ y.cps).size = x.cps.size + y.cps.size
  exact Array.size_append ..
end My
end
section
set_option Elab.async false
set_option linter.all false
set_option maxRecDepth 100000
namespace My
open PySem PySem.Spec PyProof.Rows L2 L3
/-! texts -/
theorem cutS_len (z : Str) (lo hi : Option Int) : (cutS z lo hi).length ≤ z.length := by
  unfold cutS
  show (List.toArray _).size ≤ z.cps.size
  simp only [List.size_toArray, List.length_take, List.length_drop, Array.length_toList]
  omega
theorem cutS_mem {z : Str} {lo hi : Option Int} {c : Nat} (h : c ∈ (cutS z lo hi).cps.toList) : c ∈ z.cps.toList := by
  unfold cutS at h
  simp only [List.toList_toArray] at h
  exact List.mem_of_mem_drop (List.mem_of_mem_take h)
theorem len1 (c : Nat) : (⟨#[c]⟩ : Str).length = 1 := rfl
theorem cps_app (x y : Str) : (x ++ y).cps.toList = x.cps.toList ++ y.cps.toList := by
  show (x.cps ++ y.cps).toList = _
  exact Array.toList_append
theorem strOk_of {x : Str} (h : ∀ c ∈ x.cps.toList, c < 1000) : strOk x = true := by
  unfold strOk PyData.strOk
  rw [← Array.all_toList, List.all_eq_true]
  intro c hc
  have := h c hc
  exact decide_eq_true (by omega)
def isDg (c : Nat) : Bool := decide (48 ≤ c) && decide (c ≤ 57)
def dgOf (x : Str) : Option Nat := x.cps.toList.find? isDg
abbrev LET : Str := "qwertyuiopasdfghjklzxcvbnm_zyx"
abbrev DIG : Str := "7305186429"
theorem let_nodg : ∀ c ∈ LET.cps.toList, isDg c = false ∧ c < 1000 := by decide +kernel
theorem dig_dg : ∀ c ∈ DIG.cps.toList, isDg c = true ∧ c < 1000 := by decide +kernel
theorem dig_nd : DIG.cps.toList.Nodup := by decide +kernel
theorem dig_len : DIG.cps.toList.length = 10 := by decide +kernel
abbrev PN : List Str := ["x", "yard", "z", "u", "wide_one", "q", "pp", "t"]
theorem pn_nd : ∀ sh : Nat, sh < 8 → ∀ n : Nat, n < 9 → ((List.range n).map fun i => PN.getD ((i * 3 + sh) % 8) "").Nodup := by decide +kernel
theorem pn_ok : ∀ x ∈ PN, strOk x = true := by decide +kernel
theorem nodup_of_map {α β : Type} {f : α → β} : ∀ {l : List α}, (l.map f).Nodup → l.Nodup
  | [], _ => List.nodup_nil
  | x :: l, h => by
    rw [List.map_cons, List.nodup_cons] at h
    exact List.nodup_cons.mpr ⟨fun hx => h.1 (List.mem_map.mpr ⟨x, hx, rfl⟩), nodup_of_map h.2⟩
structure Nms (n : Int) (ns : List Str) : Prop where
  ln : (ns.length : Int) = n
  nd : ns.Nodup
  ok : ∀ x ∈ ns, strOk x = true
theorem names_wp {s : List Int} {n : Int} (hs : Stm s) (h0 : 0 ≤ n) (h1 : n ≤ 8) : Wp (M_l_names s n) fun r => Nms n r.1 ∧ Stm r.2 := by
  have hz := sz
  have hlen : (rngL 0 n.toNat).length = n.toNat := rngL_len _ _
  unfold M_l_names
  refine wp_next hs (by decide) (by decide) fun r t _ _ ht => wp_ite (fun _ => ?_) fun _ => ?_
  · refine wp_next ht (by decide) (by decide) fun r t hr0 hr1 ht => wp_let (wp_let (wp_grd (rg_lt (by omega) (by omega)) ?_))
    dsimp only
    have e : compM (rngL 0 n.toNat) () (fun x72 s74 => if true = true then grd ((sm x72 || sm (3 : Int)) = true) (grd (0 < (8 : Int)) ((atI PN (((x72 * (3 : Int)) + r) % (8 : Int))).bind fun x75 => some (some x75, ()))) else some ((none : Option Str), ())) = some ((rngL 0 n.toNat).filterMap (fun x => some (PN.getD ((x * 3 + r) % 8).toNat "")), ()) := compM_pure fun x _ => by
      rw [if_pos rfl, gp (by rw [show sm 3 = true from rfl, Bool.or_true]), gp (by decide)]
      have a0 := Int.emod_nonneg (x * 3 + r) (b := 8) (by decide)
      have a1 := Int.emod_lt_of_pos (x * 3 + r) (b := 8) (by decide)
      have hl : PN.length = 8 := rfl
      rw [atI_get a0 (by omega)]
      simp only [Option.bind_some]
      rw [List.getD_eq_getElem?_getD, List.getElem?_eq_getElem (by omega)]
      rfl
    have e2 : (rngL 0 n.toNat).filterMap (fun x => some (PN.getD ((x * 3 + r) % 8).toNat "")) = (List.range n.toNat).map fun i => PN.getD ((i * 3 + r.toNat) % 8) "" := by
      rw [filterMap_some]
      unfold rngL
      rw [List.map_map]
      apply List.map_congr_left
      intro i _
      show PN.getD (((0 + (i : Int)) * 3 + r) % 8).toNat "" = _
      congr 1
      omega
    rw [e2] at e
    refine wp_eq e (wp_some ⟨⟨?_, pn_nd r.toNat (by omega) n.toNat (by omega), fun x hx => ?_⟩, ht⟩)
    · show ((List.map _ _).length : Int) = n
      rw [List.length_map, List.length_range]
      omega
    · obtain ⟨i, _, rfl⟩ := List.mem_map.mp hx
      refine pn_ok _ ?_
      rw [List.getD_eq_getElem?_getD, List.getElem?_eq_getElem (by show _ < 8; omega)]
      exact List.getElem_mem _
  · refine wp_let (wp_let (wp_grd (rg_lt (by omega) (by omega)) (wp_bind (wp_for (fun p st => st.1.map dgOf = (DIG.cps.toList.take p.length).map some ∧ (∀ x ∈ st.1, strOk x = true) ∧ st.1.length = p.length ∧ Stm st.2) ⟨rfl, fun _ h => absurd h List.not_mem_nil, rfl, ht⟩ ?_ ?_))))
    · rintro p x q ⟨ys, st⟩ e ⟨hd, hok, hl, hst⟩
      have ex := rngL_split e
      have hl : ys.length = p.length := hl
      have hd : ys.map dgOf = (DIG.cps.toList.take p.length).map some := hd
      refine wp_next hst (by decide) (by decide) fun r2 t2 _ _ ht2 => wp_let (wp_next ht2 (by decide) (by decide) fun r3 t3 _ _ ht3 => wp_let (wp_next ht3 (by decide) (by decide) fun r4 t4 _ _ ht4 => ?_))
      dsimp only
      have c1 := cutS_len ("qwertyuiopasdfghjklzxcvbnm_zyx" : Str) (some (26 - r4)) (some 26)
      have c2 := cutS_len ("qwertyuiopasdfghjklzxcvbnm_zyx" : Str) (some r2) (some (r2 + (1 + r3)))
      have c3 : ("qwertyuiopasdfghjklzxcvbnm_zyx" : Str).length = 30 := by decide +kernel
      have hp10 : p.length < 8 := by omega
      refine wp_grd (by omega) (wp_let (wp_grd (by omega) (wp_grd (by decide +kernel) (wp_bind (wp_at (by omega) (by rw [dig_len]; omega) fun y hy ey => wp_grd ?_ (wp_grd ?_ (wp_grd ?_ (wp_some ⟨?_, ?_, ?_, ht4⟩))))))))
      · rw [len1]; omega
      · rw [len_app, len1]; omega
      · omega
      · show (ys ++ [_]).map dgOf = (DIG.cps.toList.take (p ++ [x]).length).map some
        rw [List.map_append, hd, List.length_append, List.length_singleton, List.take_succ, List.map_append]
        congr 1
        rw [show x.toNat = p.length by omega] at ey
        rw [ey]
        show [dgOf _] = [some y]
        congr 1
        unfold dgOf
        rw [cps_app, cps_app, List.find?_append, List.find?_append]
        have n1 : (cutS LET (some r2) (some (r2 + (1 + r3)))).cps.toList.find? isDg = none := by
          rw [List.find?_eq_none]
          intro c hc
          rw [(let_nodg c (cutS_mem hc)).1]
          decide
        rw [n1]
        show (([y] : List Nat).find? isDg).or _ = some y
        rw [List.find?_cons, (dig_dg y hy).1]
        rfl
      · intro z hz
        rcases List.mem_append.mp hz with h | h
        · exact hok z h
        · rw [List.mem_singleton.mp h]
          refine strOk_of fun c hc => ?_
          rw [cps_app, cps_app] at hc
          rcases List.mem_append.mp hc with h | h
          · rcases List.mem_append.mp h with h | h
            · exact (let_nodg c (cutS_mem h)).2
            · have h : c ∈ [y] := h
              rw [List.mem_singleton.mp h]
              exact (dig_dg y hy).2
          · exact (let_nodg c (cutS_mem h)).2
      · show (ys ++ [_]).length = (p ++ [x]).length
        simp only [List.length_append, List.length_singleton]; omega
    · rintro ⟨ys, st⟩ ⟨hd, hok, hl, hst⟩
      have hl : ys.length = (rngL 0 n.toNat).length := hl
      have hd : ys.map dgOf = (DIG.cps.toList.take (rngL 0 n.toNat).length).map some := hd
      refine wp_some ⟨⟨by show (ys.length : Int) = n; omega, nodup_of_map (f := dgOf) ?_, hok⟩, hst⟩
      show (ys.map dgOf).Nodup
      rw [hd]
      have : (DIG.cps.toList.take (rngL 0 n.toNat).length).Nodup := dig_nd.sublist (List.take_sublist _ _)
      exact this.map some fun a b h e => h (Option.some.inj e)
/-! the pool -/
theorem pool_wp {s : List Int} {n : Int} (hs : Stm s) (h0 : 1 ≤ n) (h1 : n < 1000) : Wp (M_l_pool s n) fun r => (r.1.length : Int) = n ∧ Stm r.2 := by
  have hz := sz
  unfold M_l_pool
  refine wp_next hs (by decide) (by decide) fun r t _ _ ht => wp_let (wp_grd (rg_lt (by omega) (by omega)) (wp_bind (wp_for (fun p st => st.1.length = p.length + 1 ∧ Stm st.2) ⟨rfl, ht⟩ ?_ ?_)))
  · rintro p x q ⟨ys, st⟩ e ⟨hl, hst⟩
    have ex := rngL_split e
    have hl : ys.length = p.length + 1 := hl
    refine wp_bind (wp_at (by omega) (by show x < (ys.length : Int); omega) fun y _ _ => wp_next hst (by decide) (by decide) fun r2 t2 _ _ ht2 => wp_grd (by rfl) (wp_grd (by rfl) (wp_grd (by show ys.length < sizeLine; omega) (wp_some ⟨?_, ht2⟩))))
    show (ys ++ _).length = (p ++ [x]).length + 1
    simp only [List.length_append, List.length_singleton]
    omega
  · rintro ⟨ys, st⟩ ⟨hl, hst⟩
    have hl : ys.length = (rngL 0 (n - 1).toNat).length + 1 := hl
    rw [rngL_len] at hl
    refine wp_next hst (by decide) (by decide) fun r2 t2 h20 h21 ht2 => wp_bind (wp_at h20 (by simpa using h21) fun sc hsc _ => wp_let ?_)
    have hsm : sm sc = true := by
      simp only [List.mem_cons, List.not_mem_nil, or_false] at hsc
      rcases hsc with h | h | h | h | h | h | h | h <;> subst h <;> rfl
    have e : compM ys () (fun x113 s114 => if true = true then grd ((sm x113 || sm sc) = true) (some (some (x113 * sc), ())) else some ((none : Option Int), ())) = some (ys.filterMap (fun x => some (x * sc)), ()) := compM_pure fun x _ => by
      rw [if_pos rfl, gp (by rw [hsm, Bool.or_true])]
    refine wp_eq e (wp_some ⟨?_, ht2⟩)
    show ((ys.filterMap _).length : Int) = n
    rw [filterMap_some, List.length_map]
    omega
end My
end
section
set_option Elab.async false
set_option linter.all false
set_option maxRecDepth 100000
namespace My
open PySem PySem.Spec PyProof.Rows L2 L3
/-! many puts; loops that find nothing; boxes -/
section
variable {κ α : Type} [DecidableEq κ]
def putAll (s : List (κ × α)) (ks : List κ) (f : κ → α) : List (κ × α) := ks.foldl (fun s k => dput s k (f k)) s
theorem putAll_app {s : List (κ × α)} {ks js : List κ} {f : κ → α} : putAll s (ks ++ js) f = putAll (putAll s ks f) js f := List.foldl_append
theorem putAll_one {s : List (κ × α)} {ks : List κ} {k : κ} {f : κ → α} : putAll s (ks ++ [k]) f = dput (putAll s ks f) k (f k) := putAll_app
theorem get_putAll {f : κ → α} {j : κ} : ∀ {ks : List κ} {s : List (κ × α)}, dget (putAll s ks f) j = if j ∈ ks then some (f j) else dget s j
  | [], s => by simp [putAll]
  | k :: ks, s => by
    show dget (putAll (dput s k (f k)) ks f) j = _
    rw [get_putAll]
    by_cases h : j ∈ ks
    · rw [if_pos h, if_pos (List.mem_cons_of_mem _ h)]
    · rw [if_neg h, get_put]
      by_cases e : j = k
      · rw [if_pos e, if_pos (by rw [e]; exact List.mem_cons_self), e]
      · rw [if_neg e, if_neg (by rw [List.mem_cons]; exact fun z => z.elim e h)]
theorem nodup_putAll {f : κ → α} : ∀ {ks : List κ} {s : List (κ × α)}, (keys s).Nodup → (keys (putAll s ks f)).Nodup
  | [], s, h => h
  | k :: ks, s, h => nodup_putAll (ks := ks) (s := dput s k (f k)) (nodup_put h)
theorem len_putAll {f : κ → α} : ∀ {ks : List κ} {s : List (κ × α)}, (putAll s ks f).length ≤ s.length + ks.length
  | [], s => Nat.le_refl _
  | k :: ks, s => by
    have h := len_putAll (f := f) (ks := ks) (s := dput s k (f k))
    have h2 := dput_len s k (f k)
    show (putAll (dput s k (f k)) ks f).length ≤ _
    rw [List.length_cons]
    omega
theorem mem_putAll {f : κ → α} {j : κ} : ∀ {ks : List κ} {s : List (κ × α)}, j ∈ keys (putAll s ks f) ↔ j ∈ keys s ∨ j ∈ ks
  | [], s => by simp [putAll]
  | k :: ks, s => by
    show j ∈ keys (putAll (dput s k (f k)) ks f) ↔ _
    rw [mem_putAll, mem_keys_put, List.mem_cons, or_assoc]
theorem putAll_new {f : κ → α} : ∀ {ks : List κ} {s : List (κ × α)}, ks.Nodup → (∀ k ∈ ks, k ∉ keys s) → putAll s ks f = s ++ ks.map fun k => (k, f k)
  | [], s, _, _ => by simp [putAll]
  | k :: ks, s, nd, h => by
    rw [List.nodup_cons] at nd
    show putAll (dput s k (f k)) ks f = _
    rw [putAll_new nd.2 fun j hj => ?_, dput_new (h k List.mem_cons_self), List.append_assoc]
    · rfl
    · rw [mem_keys_put]
      exact fun z => z.elim (h j (List.mem_cons_of_mem _ hj)) fun e => nd.1 (by rw [← e]; exact hj)
theorem dcM_put {β : Type} {g : β → Option (κ × α)} {key : β → κ} {f : β → α} : ∀ {xs : List β} {acc : List (κ × α)}, (∀ x ∈ xs, g x = some (key x, f x)) → dcM xs acc g = some (xs.foldl (fun s x => dput s (key x) (f x)) acc)
  | [], acc, _ => rfl
  | x :: xs, acc, h => by
    unfold dcM
    rw [h x List.mem_cons_self]
    simp only [Option.bind_some]
    rw [dcM_put fun y hy => h y (List.mem_cons_of_mem _ hy)]
    rfl
theorem dcM_all {g : κ → Option (κ × α)} {f : κ → α} {xs : List κ} {acc : List (κ × α)} (h : ∀ x ∈ xs, g x = some (x, f x)) : dcM xs acc g = some (putAll acc xs f) := dcM_put h
theorem get_del {d : List (κ × α)} {k j : κ} : dget (ddel d k) j = if j = k then none else dget d j := by
  unfold ddel
  induction d with
  | nil => simp [dget_nil]
  | cons p d ih =>
    rw [List.filter_cons]
    by_cases h : p.1 = k
    · rw [if_neg (by simp [h]), ih, dget_cons]
      by_cases e : j = k
      · rw [if_pos e, if_pos e]
      · rw [if_neg e, if_neg e, if_neg (fun z => e (by rw [← z, h]))]
    · rw [if_pos (by simp [h]), dget_cons, dget_cons, ih]
      by_cases e : j = k
      · rw [if_pos e, if_pos e, if_neg (fun z => h (by rw [z, e]))]
      · rw [if_neg e, if_neg e]
theorem keys_del {d : List (κ × α)} {k : κ} : keys (ddel d k) = (keys d).filter fun j => decide (j ≠ k) := by
  unfold ddel keys
  rw [List.filter_map]
  rfl
theorem nodup_del {d : List (κ × α)} {k : κ} (nd : (keys d).Nodup) : (keys (ddel d k)).Nodup := by
  rw [keys_del]
  exact nd.sublist List.filter_sublist
/-- two dicts with the same values have the same keys, as many -/
theorem keys_ext {d e : List (κ × α)} (h : ∀ k, dget d k = dget e k) (k : κ) : k ∈ keys d ↔ k ∈ keys e := by
  have h1 := @dget_none κ α _ k d
  have h2 := @dget_none κ α _ k e
  rw [h k] at h1
  have h3 := h1.symm.trans h2
  by_cases a : k ∈ keys d
  · by_cases b : k ∈ keys e
    · exact ⟨fun _ => b, fun _ => a⟩
    · exact absurd a (h3.mpr b)
  · exact ⟨fun z => absurd z a, fun z => absurd z (h3.mp a)⟩
theorem len_ext {d e : List (κ × α)} (nd : (keys d).Nodup) (ne : (keys e).Nodup) (h : ∀ k, dget d k = dget e k) : d.length = e.length := by
  have h1 := sub_len nd fun k hk => (keys_ext h k).mp hk
  have h2 := sub_len ne fun k hk => (keys_ext h k).mpr hk
  unfold keys at h1 h2
  rw [List.length_map, List.length_map] at h1 h2
  omega
theorem deqG_of {f : α → α → Bool} (hf : ∀ x, f x x = true) {d e : List (κ × α)} (nd : (keys d).Nodup) (ne : (keys e).Nodup) (h : ∀ k, dget d k = dget e k) : deqG f d e = true := by
  unfold deqG
  rw [len_ext nd ne h, Bool.and_eq_true, List.all_eq_true]
  refine ⟨by simp, fun p hp => ?_⟩
  rw [← h, mem_dget nd hp]
  exact hf _
theorem dokG_of {f : α → α → Bool} (hf : ∀ x y, f x y = true) {d e : List (κ × α)} (nd : (keys d).Nodup) : dokG f d e = true := by
  unfold dokG
  rw [Bool.and_eq_true, List.all_eq_true]
  refine ⟨decide_eq_true nd, fun p hp => ?_⟩
  split
  · rfl
  · exact hf _ _
theorem deq_of [DecidableEq α] {d e : List (κ × α)} (nd : (keys d).Nodup) (ne : (keys e).Nodup) (h : ∀ k, dget d k = dget e k) : deq d e = true := by
  unfold deq
  rw [len_ext nd ne h, Bool.and_eq_true, List.all_eq_true]
  refine ⟨by simp, fun p hp => decide_eq_true ?_⟩
  rw [← h, mem_dget nd hp]
end
theorem okL {xs ys : List Int} : okG (dgL dgInt) xs ys = true := by
  unfold okG
  show (xs.all (fun _ => true) && ys.all fun _ => true) = true
  simp
section
variable {α S ρ δ : Type}
/-- a loop that may say no -/
theorem forL_all {f : α → Unit → Option (Bo Unit (Tm Unit ρ))} {c : α → Bool} {r : ρ} : ∀ {xs : List α}, (∀ x ∈ xs, f x () = if c x = true then some (.nx ()) else some (.tm (.rt r))) → forL xs () f = some (if xs.all c = true then .nx () else .tm r)
  | [], _ => rfl
  | x :: xs, h => by
    show (f x ()).bind _ = _
    rw [h x List.mem_cons_self, List.all_cons]
    by_cases e : c x = true
    · rw [if_pos e, e, Bool.true_and]
      exact forL_all fun y hy => h y (List.mem_cons_of_mem _ hy)
    · rw [if_neg e, if_neg (by simp [e])]
      rfl
/-- .. that says yes all along -/
theorem forL_go {f : α → S → Option (Bo S (Tm S ρ))} {s : S} : ∀ {xs : List α}, (∀ x ∈ xs, f x s = some (.nx s)) → forL xs s f = some (.nx s)
  | [], _ => rfl
  | x :: xs, h => by
    show (f x s).bind _ = _
    rw [h x List.mem_cons_self]
    exact forL_go fun y hy => h y (List.mem_cons_of_mem _ hy)
theorem compM_filter {f : α → S → Option (Option α × S)} {s : S} {c : α → Bool} : ∀ {xs : List α}, (∀ x ∈ xs, f x s = if c x = true then some (some x, s) else some (none, s)) → compM xs s f = some (xs.filter c, s)
  | [], _ => rfl
  | x :: xs, h => by
    have ih := compM_filter (f := f) (s := s) (c := c) (xs := xs) fun y hy => h y (List.mem_cons_of_mem _ hy)
    unfold compM
    rw [h x List.mem_cons_self]
    by_cases e : c x = true
    · rw [if_pos e, List.filter_cons_of_pos e]
      simp only [Option.bind_some]
      rw [ih]
      rfl
    · rw [if_neg e, List.filter_cons_of_neg e]
      simp only [Option.bind_some]
      rw [ih]
      rfl
theorem compM_map {f : α → S → Option (Option δ × S)} {s : S} {g : α → δ} {xs : List α} (h : ∀ x ∈ xs, f x s = some (some (g x), s)) : compM xs s f = some (xs.map g, s) := by
  rw [compM_pure (g := fun x => some (g x)) h, filterMap_some]
end
theorem cut_take {α : Type} {xs : List α} {i : Int} (h0 : 0 ≤ i) : cutL xs none (some i) = xs.take i.toNat := by
  unfold cutL
  have e1 : HT.sIx xs.length xs.length (some i) = min i.toNat xs.length := by
    unfold HT.sIx; simp only; rw [if_neg (by omega)]
  have e3 : HT.sIx xs.length 0 none = 0 := rfl
  rw [e1, e3, List.drop_zero, Nat.sub_zero]
  by_cases h : i.toNat ≤ xs.length
  · rw [Nat.min_eq_left h]
  · rw [Nat.min_eq_right (by omega), List.take_length, List.take_of_length_le (by omega)]
theorem cut_drop {α : Type} {xs : List α} {i : Int} (h0 : 0 ≤ i) : cutL xs (some i) none = xs.drop i.toNat := by
  unfold cutL
  have e2 : HT.sIx xs.length 0 (some i) = min i.toNat xs.length := by
    unfold HT.sIx; simp only; rw [if_neg (by omega)]
  have e4 : HT.sIx xs.length xs.length none = xs.length := rfl
  rw [e2, e4]
  by_cases h : i.toNat ≤ xs.length
  · rw [Nat.min_eq_left h, List.take_of_length_le (by rw [List.length_drop]; omega)]
  · rw [Nat.min_eq_right (by omega), List.drop_length, List.drop_of_length_le (by omega), List.take_nil]
theorem okNs {ns : List Str} (h : ∀ p ∈ ns, strOk p = true) : okG (dgL dgStr) ns ns = true := by
  have : (ns.all fun x => strOk x) = true := by
    rw [List.all_eq_true]
    exact h
  show ((ns.all fun x => strOk x) && (ns.all fun x => strOk x)) = true
  rw [this]; rfl
/-- the pool rises -/
theorem pool_lt {s : List Int} {n : Int} (hs : Stm s) (h0 : 1 ≤ n) (h1 : n < 1000) : Wp (M_l_pool s n) fun r => (r.1.length : Int) = n ∧ r.1.Pairwise (· < ·) ∧ Stm r.2 := by
  have hz := sz
  unfold M_l_pool
  refine wp_next hs (by decide) (by decide) fun r t _ _ ht => wp_let (wp_grd (rg_lt (by omega) (by omega)) (wp_bind (wp_for (fun p st => st.1.length = p.length + 1 ∧ st.1.Pairwise (· < ·) ∧ (∀ v ∈ st.1, ∀ l, st.1.getLast? = some l → v ≤ l) ∧ Stm st.2) ⟨rfl, List.pairwise_singleton _ _, fun v hv l hl => ?_, ht⟩ ?_ ?_)))
  · have hl : some (r - 4) = some l := hl
    cases hl
    have hv : v ∈ [r - 4] := hv
    rw [List.mem_singleton.mp hv]
    exact Int.le_refl _
  · rintro p x q ⟨ys, st⟩ e ⟨hl, hlt, hle, hst⟩
    have ex := rngL_split e
    have hl : ys.length = p.length + 1 := hl
    dsimp only at hlt hle
    have hlast : ys.getLast? = ys[x.toNat]? := by rw [List.getLast?_eq_getElem?]; congr 1; omega
    refine wp_bind (wp_at (by omega) (by show x < (ys.length : Int); omega) fun y _ ey => wp_next hst (by decide) (by decide) fun r2 t2 hr2 _ ht2 => wp_grd (by rfl) (wp_grd (by rfl) (wp_grd (by show ys.length < sizeLine; omega) (wp_some ⟨?_, ?_, ?_, ht2⟩))))
    · show (ys ++ _).length = (p ++ [x]).length + 1
      simp only [List.length_append, List.length_singleton]
      omega
    · show (ys ++ [_]).Pairwise (· < ·)
      refine List.pairwise_append.mpr ⟨hlt, List.pairwise_singleton _ _, fun v hv w hw => ?_⟩
      rw [List.mem_singleton.mp hw]
      have := hle v hv y (by rw [hlast]; exact ey)
      dsimp only
      omega
    · intro v hv l hl2
      have hl2 : (ys ++ [_]).getLast? = some l := hl2
      rw [List.getLast?_concat] at hl2
      cases hl2
      rcases List.mem_append.mp hv with h | h
      · have := hle v h y (by rw [hlast]; exact ey)
        dsimp only
        omega
      · rw [List.mem_singleton.mp h]
        exact Int.le_refl _
  · rintro ⟨ys, st⟩ ⟨hl, hlt, hle, hst⟩
    have hl : ys.length = (rngL 0 (n - 1).toNat).length + 1 := hl
    rw [rngL_len] at hl
    refine wp_next hst (by decide) (by decide) fun r2 t2 h20 h21 ht2 => wp_bind (wp_at h20 (by simpa using h21) fun sc hsc _ => wp_let ?_)
    have hsc2 : sm sc = true ∧ 0 < sc := by
      simp only [List.mem_cons, List.not_mem_nil, or_false] at hsc
      rcases hsc with h | h | h | h | h | h | h | h <;> subst h <;> exact ⟨rfl, by decide⟩
    have e : compM ys () (fun x113 s114 => if true = true then grd ((sm x113 || sm sc) = true) (some (some (x113 * sc), ())) else some ((none : Option Int), ())) = some (ys.filterMap (fun x => some (x * sc)), ()) := compM_pure fun x _ => by
      rw [if_pos rfl, gp (by rw [hsc2.1, Bool.or_true])]
    refine wp_eq e (wp_some ⟨?_, ?_, ht2⟩)
    · show ((ys.filterMap _).length : Int) = n
      rw [filterMap_some, List.length_map]
      omega
    · show (ys.filterMap _).Pairwise (· < ·)
      rw [filterMap_some, List.pairwise_map]
      exact hlt.imp fun h => Int.mul_lt_mul_of_pos_right h hsc2.2
theorem nd_split {α : Type} {xs p t : List α} {k : α} (nd : xs.Nodup) (e : xs = p ++ k :: t) : k ∉ p := fun z => by
  rw [e] at nd
  exact (List.nodup_append.mp nd).2.2 k z k List.mem_cons_self rfl
theorem len_split {α : Type} {xs p t : List α} {k : α} (e : xs = p ++ k :: t) : p.length < xs.length := by
  rw [e, List.length_append, List.length_cons]; omega
/-! ### boxes -/
abbrev Box := List (Str × List Int)
def getB (b : Box) (k : Str) : List Int := (dget b k).getD []
theorem dget_B {b : Box} {k : Str} (h : k ∈ keys b) : dget b k = some (getB b k) := by
  obtain ⟨v, e⟩ := dget_some h
  unfold getB
  rw [e]; rfl
theorem map_self {d : Box} (nd : (keys d).Nodup) : (keys d).map (fun k => (k, getB d k)) = d := by
  unfold keys
  rw [List.map_map]
  conv => rhs; rw [← List.map_id d]
  apply List.map_congr_left
  intro p hp
  show (p.1, getB d p.1) = p
  unfold getB
  rw [mem_dget nd (show (p.1, p.2) ∈ d from hp)]
  rfl
theorem copy_self {d : Box} (nd : (keys d).Nodup) : putAll [] (keys d) (getB d) = d := by
  rw [putAll_new nd fun k _ h => absurd h List.not_mem_nil, map_self nd, List.nil_append]
theorem keys_len {κ α : Type} (d : List (κ × α)) : (keys d).length = d.length := List.length_map _
/-- a side -/
structure Side (x : List Int) : Prop where
  lt : x.Pairwise (· < ·)
  ln : x.length ≤ 1000
theorem Side.nil : Side [] := ⟨List.Pairwise.nil, Nat.zero_le _⟩
theorem Side.sub {x y : List Int} (h : Side x) (s : y.Sublist x) : Side y := ⟨h.lt.sublist s, Nat.le_trans s.length_le h.ln⟩
theorem Side.filter {x : List Int} (h : Side x) (p : Int → Bool) : Side (x.filter p) := h.sub List.filter_sublist
structure BoxOk (b : Box) : Prop where
  nd : (keys b).Nodup
  sd : ∀ k x, dget b k = some x → Side x
theorem BoxOk.get {b : Box} (h : BoxOk b) (k : Str) : Side (getB b k) := by
  unfold getB
  cases e : dget b k with
  | none => exact Side.nil
  | some x => exact h.sd k x e
theorem BoxOk.nil : BoxOk [] := ⟨List.nodup_nil, fun k x h => by rw [dget_nil] at h; cases h⟩
theorem BoxOk.put {b : Box} (h : BoxOk b) {k : Str} {x : List Int} (s : Side x) : BoxOk (dput b k x) := ⟨nodup_put h.nd, fun j y e => by
  rw [get_put] at e
  split at e
  · cases e; exact s
  · exact h.sd j y e⟩
theorem BoxOk.putAll {f : Str → List Int} : ∀ {ks : List Str} {b : Box}, BoxOk b → (∀ k ∈ ks, Side (f k)) → BoxOk (putAll b ks f)
  | [], _, h, _ => h
  | k :: ks, b, h, s => BoxOk.putAll (ks := ks) (b := dput b k (f k)) (h.put (s k List.mem_cons_self)) fun j hj => s j (List.mem_cons_of_mem _ hj)
theorem BoxOk.del {b : Box} (h : BoxOk b) (k : Str) : BoxOk (ddel b k) := ⟨nodup_del h.nd, fun j y e => by
  rw [get_del] at e
  split at e
  · cases e
  · exact h.sd j y e⟩
/-! meet and join -/
def mF (a b : Box) (k : Str) : List Int := match dget a k with | some x => x.filter (fun v => decide (v ∈ getB b k)) | none => getB b k
def meetP (a b : Box) : Box := putAll a (keys b) (mF a b)
theorem get_meet {a b : Box} (k : Str) : dget (meetP a b) k = match dget b k with | none => dget a k | some y => match dget a k with | some x => some (x.filter fun v => decide (v ∈ y)) | none => some y := by
  unfold meetP
  rw [get_putAll]
  cases e : dget b k with
  | none => rw [if_neg (dget_none.mp e)]
  | some y =>
    rw [if_pos (dget_key e)]
    unfold mF getB
    rw [e]
    cases dget a k <;> rfl
theorem mem_meet {a b : Box} (k : Str) : k ∈ keys (meetP a b) ↔ k ∈ keys a ∨ k ∈ keys b := mem_putAll
theorem meet_len {a b : Box} : (meetP a b).length ≤ a.length + b.length := by
  have := len_putAll (s := a) (ks := keys b) (f := mF a b)
  rw [keys_len] at this
  exact this
theorem BoxOk.meet {a b : Box} (ha : BoxOk a) (hb : BoxOk b) : BoxOk (meetP a b) := BoxOk.putAll ha fun k _ => by
  unfold mF
  cases e : dget a k with
  | none => exact hb.get k
  | some x => exact (ha.sd k x e).filter _
def joinP (a b : Box) (n : Str) : Box :=
  match dget a n, dget b n with
  | some x, some y => dput (meetP a b) n (sideL (x ++ y))
  | _, _ => ddel (meetP a b) n
theorem get_join {a b : Box} {n : Str} (k : Str) : dget (joinP a b n) k = if k = n then (match dget a n, dget b n with | some x, some y => some (sideL (x ++ y)) | _, _ => none) else dget (meetP a b) k := by
  unfold joinP
  cases dget a n <;> cases dget b n <;> simp only [get_del, get_put]
theorem side_of_len (xs : List Int) : (sideL xs).length ≤ xs.length := by
  have nd : (sideL xs).Nodup := (sideL_lt xs).imp fun h => Int.ne_of_lt h
  exact sub_len nd fun y hy => (sideL_mem xs y).mp hy
end My
end
section
set_option Elab.async false
set_option linter.all false
set_option maxRecDepth 100000
set_option maxHeartbeats 1000000
namespace My
open PySem PySem.Spec PyProof.Rows L2 L3
theorem copy_ok {d : Box} (nd : (keys d).Nodup) : M_copy_box d = some d := by
  unfold M_copy_box
  rw [dcM_all (f := getB d) fun x hx => by rw [dget_B hx]; rfl, copy_self nd]
  rfl
theorem copied_ok {d : Box} (nd : (keys d).Nodup) (hl : d.length < 1000) : M_l_copied d = some d := by
  have hz := sz
  apply wp_is
  unfold M_l_copied
  refine wp_let (wp_bind (wp_for (fun p s => s = putAll [] p (getB d)) rfl ?_ fun s hs => wp_some (by rw [hs, copy_self nd])))
  rintro p k t s e rfl
  have hl2 := congrArg List.length e
  rw [keys_len, List.length_append] at hl2
  have := len_putAll (s := []) (ks := p) (f := getB d)
  refine wp_eq (dget_B (mem_split e)) (wp_grd (by rw [List.length_nil] at this; omega) (wp_some ?_))
  rw [putAll_one]
theorem common_ok (x y : List Int) : M_common x y = some (x.filter fun v => decide (v ∈ y)) := by
  unfold M_common
  rw [List.map_id']
theorem united_ok {x y : List Int} (h : x.length + y.length < 4000) : M_united x y = some (sideL (x ++ y)) := by
  have hz := sz
  have hb := sb
  unfold M_united
  rw [gp (by omega), gp (by rw [List.length_append]; omega)]
theorem meet_ok {a b : Box} (na : (keys a).Nodup) (nb : (keys b).Nodup) (hl : a.length + b.length < 1000) : M_meet_boxes a b = some (meetP a b) := by
  have hz := sz
  apply wp_is
  unfold M_meet_boxes
  refine wp_eq (copy_ok na) (wp_let (wp_bind (wp_for (fun p s => s = putAll a p (mF a b)) rfl ?_ fun s hs => wp_some hs)))
  rintro p k t s e rfl
  have hl2 := congrArg List.length e
  rw [keys_len, List.length_append] at hl2
  have hpl := len_putAll (s := a) (ks := p) (f := mF a b)
  have hk : k ∉ p := nd_split nb e
  have hg : dget (putAll a p (mF a b)) k = dget a k := by rw [get_putAll, if_neg hk]
  have hkb := dget_B (mem_split e)
  have hlen : (putAll a p (mF a b)).length < sizeLine := by omega
  refine wp_then (P := fun s => s = putAll a (p ++ [k]) (mF a b)) (wp_ite (fun h => ?_) fun h => ?_) fun s h => wp_some h
  · cases e2 : dget a k with
    | none => rw [dhas_get, hg, e2] at h; cases h
    | some x =>
      refine wp_eq (by rw [hg, e2]) (wp_eq hkb (wp_eq (common_ok _ _) (wp_grd hlen (wp_some ?_))))
      rw [putAll_one]
      unfold mF
      rw [e2]
  · cases e2 : dget a k with
    | some x => rw [dhas_get, hg, e2] at h; exact absurd rfl h
    | none =>
      refine wp_eq hkb (wp_grd hlen (wp_some ?_))
      rw [putAll_one]
      unfold mF
      rw [e2]
theorem join_ok {a b : Box} {n : Str} (ha : BoxOk a) (hb : BoxOk b) (hl : a.length + b.length < 1000) : M_join_boxes a b n = some (joinP a b n) := by
  have hz := sz
  have hm := meet_len (a := a) (b := b)
  apply wp_is
  unfold M_join_boxes
  refine wp_eq (meet_ok ha.nd hb.nd hl) (wp_let (wp_then (P := fun s => s = joinP a b n) ?_ fun s h => wp_some h))
  refine wp_ite (fun h => ?_) fun h => ?_
  · rw [Bool.and_eq_true, dhas_get, dhas_get] at h
    obtain ⟨x, ex⟩ := Option.isSome_iff_exists.mp h.1
    obtain ⟨y, ey⟩ := Option.isSome_iff_exists.mp h.2
    have sx := (ha.sd n x ex).ln
    have sy := (hb.sd n y ey).ln
    refine wp_eq ex (wp_eq ey (wp_eq (united_ok (by omega)) (wp_grd (by omega) (wp_some ?_))))
    unfold joinP
    rw [ex, ey]
  · have hj : joinP a b n = ddel (meetP a b) n := by
      unfold joinP
      rw [Bool.and_eq_true, dhas_get, dhas_get] at h
      cases ex : dget a n <;> cases ey : dget b n <;> try rfl
      rw [ex, ey] at h
      exact absurd ⟨rfl, rfl⟩ h
    rw [hj]
    refine wp_then (P := fun s => s = ddel (meetP a b) n) (wp_ite (fun h2 => wp_grd h2 (wp_some rfl)) fun h2 => wp_some ?_) fun s h => wp_some h
    unfold ddel
    symm
    apply List.filter_eq_self.mpr
    intro p hp
    refine decide_eq_true fun e => h2 ?_
    rw [dhas_iff, ← e]
    exact List.mem_map.mpr ⟨p, hp, rfl⟩
theorem srt_side {x y : List Int} (hx : x.Pairwise (· < ·)) (hy : y.Pairwise (· < ·)) : srt (x ++ y.filter fun v => !decide (v ∈ x)) = sideL (x ++ y) := by
  have hp := srt_perm (x ++ y.filter fun v => !decide (v ∈ x))
  have nd : (x ++ y.filter fun v => !decide (v ∈ x)).Nodup := by
    refine List.nodup_append.mpr ⟨hx.imp fun h => Int.ne_of_lt h, (hy.imp fun h => Int.ne_of_lt h).sublist List.filter_sublist, fun u hu v hv e => ?_⟩
    subst e
    have := (List.mem_filter.mp hv).2
    simp [hu] at this
  have nd2 : (srt (x ++ y.filter fun v => !decide (v ∈ x))).Nodup := hp.nodup_iff.mpr nd
  have hlt : (srt (x ++ y.filter fun v => !decide (v ∈ x))).Pairwise (· < ·) := by
    have := (srt_le (x ++ y.filter fun v => !decide (v ∈ x))).and nd2
    exact this.imp fun ⟨h1, h2⟩ => by omega
  refine lt_uniq hlt (sideL_lt _) fun k => ?_
  rw [hp.mem_iff, sideL_mem, List.mem_append, List.mem_append, List.mem_filter]
  by_cases h : k ∈ x
  · simp [h]
  · simp [h]
theorem BoxOk.join {a b : Box} {n : Str} (ha : BoxOk a) (hb : BoxOk b) (hs : ∀ x y, dget a n = some x → dget b n = some y → x.length + y.length ≤ 1000) : BoxOk (joinP a b n) := by
  unfold joinP
  cases ex : dget a n with
  | none => exact (ha.meet hb).del n
  | some x =>
    cases ey : dget b n with
    | none => exact (ha.meet hb).del n
    | some y => exact (ha.meet hb).put ⟨sideL_lt _, Nat.le_trans (side_of_len _) (by rw [List.length_append]; exact hs x y ex ey)⟩
theorem is_side_ok {xs : List Int} (h : xs.Pairwise (· < ·)) (hl : xs.length < 100000) : M_l_is_side xs = some true := by
  have e1 : compM xs () (fun x205 s207 => if true = true then (M_l_is_integer x205).bind fun r209 => some (some r209, ()) else some ((none : Option Bool), ())) = some (xs.filterMap (fun _ => some true), ()) := compM_pure fun x _ => by
    unfold M_l_is_integer
    rfl
  have e2 : compM (rngL 0 ((xs.length : Int) - (1 : Int)).toNat) () (fun x214 s217 => if true = true then (atI xs x214).bind fun x219 => (atI xs (x214 + (1 : Int))).bind fun x220 => some (some (decide (x219 < x220)), ()) else some ((none : Option Bool), ())) = some ((rngL 0 ((xs.length : Int) - (1 : Int)).toNat).filterMap (fun _ => some true), ()) := compM_pure fun x hx => by
    have hx := rngL_mem.mp hx
    rw [if_pos rfl, atI_get (by omega) (by omega), atI_get (by omega) (by omega)]
    simp only [Option.bind_some]
    rw [decide_eq_true]
    exact List.pairwise_iff_getElem.mp h _ _ _ _ (by omega)
  rw [filterMap_some] at e1 e2
  apply wp_is
  unfold M_l_is_side
  rw [if_neg (by decide)]
  refine wp_bind (wp_eq e1 (wp_some ?_))
  dsimp only
  rw [if_neg (by simp)]
  refine wp_grd (rg_lt (by omega) (by omega)) (wp_eq e2 (wp_some ?_))
  simp
theorem same_ok {x y : Box} (hx : BoxOk x) (ny : (keys y).Nodup) (h : ∀ k, dget x k = dget y k) : M_l_same_sides x y = some true := by
  have hl := len_ext hx.nd ny h
  have hk := keys_len y
  have e1 : ∀ k ∈ keys y, dget x k = some (getB x k) := fun k hk => dget_B ((keys_ext h k).mpr hk)
  have e2 : (keys y).filter (fun _ => true) = keys y := List.filter_eq_self.mpr fun _ _ => rfl
  apply wp_is
  unfold M_l_same_sides
  rw [if_neg (by simp [hl])]
  refine wp_eq (compM_filter (c := fun _ => true) fun k hk => ?_) (wp_let ?_)
  · rw [if_pos (by rw [dhas_get, e1 k hk]; rfl), e1 k hk]
    simp only [Option.bind_some]
    rw [is_side_ok (hx.get k).lt (by have := (hx.get k).ln; omega)]
    rfl
  · dsimp only
    rw [e2, if_pos (by rw [hk]; simp)]
    refine wp_bind (wp_eq (compM_map (g := fun _ => true) fun k hk => ?_) (wp_some (wp_some ?_)))
    · rw [if_pos rfl, ← h, e1 k hk]
      simp
    · simp
theorem deepL {xs ys : List Box} (h : Paired (fun x y : Box => (keys x).Nodup ∧ (keys y).Nodup ∧ ∀ k, dget x k = dget y k) xs ys) : lokG (deM (κ := Str) (deG (dgL dgInt) (injL injInt))).ok xs ys = true ∧ leqG (deM (κ := Str) (deG (dgL dgInt) (injL injInt))).eqv xs ys = true := by
  induction h with
  | nil => exact ⟨rfl, rfl⟩
  | cons r t ih =>
    refine ⟨?_, ?_⟩
    · exact Bool.and_eq_true_iff.mpr ⟨dokG_of (f := fun x y => okG (dgL dgInt) x y) (fun x y => okL) r.1, ih.1⟩
    · exact Bool.and_eq_true_iff.mpr ⟨deqG_of (f := fun (x y : List Int) => decide (x = y)) (fun x => decide_eq_true rfl) r.1 r.2.1 r.2.2, ih.2⟩
end My
end
section
set_option Elab.async false
set_option linter.all false
set_option maxRecDepth 100000
set_option maxHeartbeats 1000000
namespace My
open PySem PySem.Spec PyProof.Rows L2 L3
/-! plans -/
structure BoxP (pool : List Int) (ns : List Str) (b : Box) : Prop where
  nd : (keys b).Nodup
  ks : ∀ k, k ∈ keys b ↔ k ∈ ns
  sd : ∀ k x, dget b k = some x → x.Pairwise (· < ·) ∧ ∀ v ∈ x, v ∈ pool
structure Env6 (pool : List Int) (ns : List Str) : Prop where
  pl : pool.length ≤ 5
  nl : ns.length ≤ 5
  so : ∀ n ∈ ns, strOk n = true
section
variable {pool : List Int} {ns : List Str}
theorem BoxP.side {b : Box} (h : BoxP pool ns b) (e : Env6 pool ns) {k : Str} {x : List Int} (hx : dget b k = some x) : x.length ≤ 5 := by
  obtain ⟨h1, h2⟩ := h.sd k x hx
  have := sub_len (h1.imp fun h => Int.ne_of_lt h) h2
  have := e.pl
  omega
theorem BoxP.ok {b : Box} (h : BoxP pool ns b) (e : Env6 pool ns) : BoxOk b := ⟨h.nd, fun k x hx => ⟨(h.sd k x hx).1, by have := h.side e hx; omega⟩⟩
theorem BoxP.len {b : Box} (h : BoxP pool ns b) (e : Env6 pool ns) : b.length ≤ 5 := by
  have := sub_len h.nd fun k hk => (h.ks k).mp hk
  rw [keys_len] at this
  have := e.nl
  omega
theorem BoxP.get {b : Box} (h : BoxP pool ns b) {k : Str} (hk : k ∈ ns) : dget b k = some (getB b k) := dget_B ((h.ks k).mpr hk)
theorem BoxP.no {b : Box} (h : BoxP pool ns b) {k : Str} (hk : k ∉ ns) : dget b k = none := dget_none.mpr fun z => hk ((h.ks k).mp z)
theorem BoxP.of {b : Box} {F : Str → List Int} (nd : (keys b).Nodup) (h : ∀ k, dget b k = if k ∈ ns then some (F k) else none) (hF : ∀ k ∈ ns, (F k).Pairwise (· < ·) ∧ ∀ v ∈ F k, v ∈ pool) : BoxP pool ns b :=
  ⟨nd, fun k => by
    constructor
    · intro hk
      obtain ⟨v, ev⟩ := dget_some hk
      rw [h] at ev
      by_cases hn : k ∈ ns
      · exact hn
      · rw [if_neg hn] at ev; cases ev
    · intro hk
      exact dget_key (v := F k) (by rw [h, if_pos hk]), fun k x hx => by
    rw [h] at hx
    by_cases hn : k ∈ ns
    · rw [if_pos hn] at hx; cases hx; exact hF k hn
    · rw [if_neg hn] at hx; cases hx⟩
def jF (a b : Box) (n k : Str) : List Int := if k = n then sideL (getB a k ++ getB b k) else (getB a k).filter fun v => decide (v ∈ getB b k)
theorem jF_ok {a b : Box} {n k : Str} (ha : BoxP pool ns a) (hb : BoxP pool ns b) (hk : k ∈ ns) : (jF a b n k).Pairwise (· < ·) ∧ ∀ v ∈ jF a b n k, v ∈ pool := by
  have a1 := ha.sd k _ (ha.get hk)
  have b1 := hb.sd k _ (hb.get hk)
  unfold jF
  split
  · exact ⟨sideL_lt _, fun v hv => (List.mem_append.mp ((sideL_mem _ v).mp hv)).elim (a1.2 v) (b1.2 v)⟩
  · exact ⟨a1.1.sublist List.filter_sublist, fun v hv => a1.2 v (List.mem_filter.mp hv).1⟩
theorem get_jP {a b : Box} {n : Str} (ha : BoxP pool ns a) (hb : BoxP pool ns b) (hn : n ∈ ns) (k : Str) : dget (joinP a b n) k = if k ∈ ns then some (jF a b n k) else none := by
  rw [get_join]
  unfold jF
  by_cases hk : k ∈ ns
  · rw [if_pos hk]
    by_cases e : k = n
    · subst e
      rw [if_pos rfl, if_pos rfl, ha.get hk, hb.get hk]
    · rw [if_neg e, if_neg e, get_meet, ha.get hk, hb.get hk]
  · rw [if_neg hk, if_neg (fun e => hk (by rw [e]; exact hn)), get_meet, ha.no hk, hb.no hk]
theorem BoxP.join {a b : Box} {n : Str} (e : Env6 pool ns) (ha : BoxP pool ns a) (hb : BoxP pool ns b) (hn : n ∈ ns) : BoxP pool ns (joinP a b n) :=
  .of ((ha.ok e).join (hb.ok e) fun x y hx hy => by have := ha.side e hx; have := hb.side e hy; omega).nd (get_jP ha hb hn) fun k hk => jF_ok ha hb hk
def l6P (a b : Box) (n : Str) : Box := dput (putAll [] (keys a) fun k => (getB a k).filter fun v => decide (v ∈ getB b k)) n (sideL (getB a n ++ getB b n))
theorem get_l6 {a b : Box} {n : Str} (ha : BoxP pool ns a) (hn : n ∈ ns) (k : Str) : dget (l6P a b n) k = if k ∈ ns then some (jF a b n k) else none := by
  unfold l6P jF
  rw [get_put]
  by_cases e : k = n
  · subst e
    rw [if_pos rfl, if_pos hn, if_pos rfl]
  · rw [if_neg e, if_neg e, get_putAll, dget_nil]
    by_cases hk : k ∈ ns
    · rw [if_pos hk, if_pos ((ha.ks k).mpr hk)]
    · rw [if_neg hk, if_neg (fun z => hk ((ha.ks k).mp z))]
theorem l6_box {a b : Box} {n : Str} (ha : BoxP pool ns a) (hb : BoxP pool ns b) (hn : n ∈ ns) : BoxP pool ns (l6P a b n) :=
  .of (nodup_put (nodup_putAll List.nodup_nil)) (get_l6 ha hn) fun k hk => jF_ok ha hb hk
theorem l6_ok {a b : Box} {n : Str} (e : Env6 pool ns) (ha : BoxP pool ns a) (hb : BoxP pool ns b) (hn : n ∈ ns) : M_l_join a b n = some (l6P a b n) := by
  have hz := sz
  have hl := ha.len e
  unfold M_l_join
  refine wp_is (wp_let (wp_bind (wp_for (fun p s => s = putAll [] p fun k => (getB a k).filter fun v => decide (v ∈ getB b k)) rfl ?_ ?_)))
  · rintro p k t s es rfl
    have hk : k ∈ ns := (ha.ks k).mp (mem_split es)
    have hlp := len_split es
    rw [List.length_map] at hlp
    rw [ha.get hk]
    simp only [Option.bind_some]
    have ec : compM (getB a k) () (fun x268 (s270 : Unit) => (dget b k).bind fun x272 => if (decide (x268 ∈ x272)) = true then some (some x268, ()) else some (none, ())) = some ((getB a k).filter fun v => decide (v ∈ getB b k), ()) := compM_filter fun v _ => by
      rw [hb.get hk]; rfl
    rw [ec]
    refine wp_let (wp_grd (Nat.lt_of_le_of_lt len_putAll (by simp only [List.length_nil]; omega)) (wp_some ?_))
    rw [putAll_one]
  · rintro s rfl
    have hx := ha.sd n _ (ha.get hn)
    have hy := hb.sd n _ (hb.get hn)
    have lx := ha.side e (ha.get hn)
    have ly := hb.side e (hb.get hn)
    rw [ha.get hn, hb.get hn]
    simp only [Option.bind_some]
    have ec : compM (getB b n) () (fun x258 (s260 : Unit) => if (!decide (x258 ∈ getB a n)) = true then some (some x258, ()) else some (none, ())) = some ((getB b n).filter fun v => !decide (v ∈ getB a n), ()) := compM_filter fun v _ => rfl
    rw [ec]
    have lf := List.length_filter_le (fun v => !decide (v ∈ getB a n)) (getB b n)
    refine wp_let (wp_grd (by dsimp only; omega) (wp_grd (Nat.lt_of_le_of_lt len_putAll (by simp only [List.length_nil, keys_len, List.length_map]; omega)) (wp_some ?_)))
    dsimp only
    rw [srt_side hx.1 hy.1]
    rfl
/-! ### steps -/
abbrev Stp := Str × Int × Int
def GoodAt (ns : List Str) (m : Int) (q : Stp) : Prop := q.1 ∈ ns ∧ (0 ≤ q.2.1 ∧ q.2.1 < m) ∧ (0 ≤ q.2.2 ∧ q.2.2 < m)
def BadAt (m : Int) (q : Stp) : Prop := ¬ (0 ≤ q.2.1 ∧ q.2.1 < m) ∨ ¬ (0 ≤ q.2.2 ∧ q.2.2 < m)
def GoodS (ns : List Str) (m : Nat) (ss : List Stp) : Prop := ∀ i q, ss[i]? = some q → GoodAt ns ((m + i : Nat) : Int) q
def runP (K : List Box) (ss : List Stp) : List Box := ss.foldl (fun K s => K ++ [joinP (K.getD s.2.1.toNat []) (K.getD s.2.2.toNat []) s.1]) K
theorem runP_one {K : List Box} {ss : List Stp} {s : Stp} : runP K (ss ++ [s]) = runP K ss ++ [joinP ((runP K ss).getD s.2.1.toNat []) ((runP K ss).getD s.2.2.toNat []) s.1] := by unfold runP; rw [List.foldl_append]; rfl
theorem getD_at {K : List Box} {i : Int} (h : 0 ≤ i ∧ i < (K.length : Int)) : atI K i = some (K.getD i.toNat []) ∧ K.getD i.toNat [] ∈ K := by
  have hl : i.toNat < K.length := by omega
  rw [atI_get h.1 hl, List.getD_eq_getElem?_getD, List.getElem?_eq_getElem hl]
  exact ⟨rfl, List.getElem_mem _⟩
theorem run_ok {K : List Box} {ss : List Stp} (e : Env6 pool ns) (hK : ∀ b ∈ K, BoxP pool ns b) (hs : GoodS ns K.length ss) : ∀ n, n ≤ ss.length → (runP K (ss.take n)).length = K.length + n ∧ ∀ b ∈ runP K (ss.take n), BoxP pool ns b
  | 0, _ => ⟨rfl, hK⟩
  | n + 1, hn => by
    obtain ⟨h1, h2⟩ := run_ok e hK hs n (by omega)
    obtain ⟨q, hq⟩ : ∃ q, ss[n]? = some q := ⟨_, List.getElem?_eq_getElem (by omega)⟩
    obtain ⟨g1, g2, g3⟩ := hs n q hq
    rw [← h1] at g2 g3
    rw [show ss.take (n + 1) = ss.take n ++ [q] by rw [List.take_succ, hq]; rfl, runP_one]
    refine ⟨by rw [List.length_append, h1]; rfl, fun b hb => ?_⟩
    rcases List.mem_append.mp hb with z | z
    · exact h2 b z
    · rw [List.mem_singleton.mp z]
      exact BoxP.join e (h2 _ (getD_at g2).2) (h2 _ (getD_at g3).2) g1
theorem enum_split {α : Type} {xs : List α} {p t : List (Int × α)} {x : Int × α} (h : enumL xs = p ++ x :: t) : x.1 = p.length ∧ xs[p.length]? = some x.2 ∧ p.length < xs.length := by
  have e := congrArg (fun l => l[p.length]?) h
  simp only [List.getElem?_append_right (Nat.le_refl _), Nat.sub_self, List.getElem?_cons_zero] at e
  unfold enumL at e
  rw [List.getElem?_mapIdx, Option.map_eq_some_iff] at e
  obtain ⟨a, ha, ex⟩ := e
  rw [← ex]
  exact ⟨rfl, ha, (List.getElem?_eq_some_iff.mp ha).1⟩
theorem take_one6 {α : Type} {z : List α} {n : Nat} {q : α} (h : z[n]? = some q) : z.take (n + 1) = z.take n ++ [q] := by
  rw [List.take_succ, h]; rfl
theorem copies {K : List Box} (hK : ∀ b ∈ K, BoxP pool ns b) : ∀ acc : List Box, lcM K acc (fun x46 => (M_copy_box x46).bind fun r48 => some r48) = some (acc ++ K) := by
  induction K with
  | nil => intro acc; show some acc = _; rw [List.append_nil]
  | cons b K ih =>
    intro acc
    show (((M_copy_box b).bind fun r48 => some r48).bind fun y => lcM K (acc ++ [y]) _) = _
    rw [copy_ok (hK b List.mem_cons_self).nd]
    show lcM K (acc ++ [b]) _ = _
    rw [ih fun c hc => hK c (List.mem_cons_of_mem _ hc), List.append_assoc]
    rfl
theorem inner_ok {i : Int} {s : List Box} {a b : Int} (ha : 0 ≤ a ∧ a < (s.length : Int)) (hb : 0 ≤ b ∧ b < (s.length : Int)) : forL ([a, b]) (() : Unit) (fun x63 s62 => if (!((decide ((0 : Int) ≤ x63)) && (decide (x63 < (s.length : Int))))) = true then inB (some ((fun e => Tm.rt ((Except.error (α := List Box)) e)) (⟨"BadStep", [.int i]⟩ : Er))) else some (Bo.nx ())) = some (Bo.nx ()) :=
  forL_go fun x hx => by
    have hx : 0 ≤ x ∧ x < (s.length : Int) := by
      rcases List.mem_cons.mp hx with z | z
      · rw [z]; exact ha
      · rw [List.mem_singleton.mp z]; exact hb
    rw [if_neg (by simp [hx.1, hx.2])]
theorem inner_bad {i : Int} {s : List Box} {a b : Int} (h : ¬ (0 ≤ a ∧ a < (s.length : Int)) ∨ ¬ (0 ≤ b ∧ b < (s.length : Int))) : forL ([a, b]) (() : Unit) (fun x63 s62 => if (!((decide ((0 : Int) ≤ x63)) && (decide (x63 < (s.length : Int))))) = true then inB (some ((fun e => Tm.rt ((Except.error (α := List Box)) e)) (⟨"BadStep", [.int i]⟩ : Er))) else some (Bo.nx ())) = some (Bo.tm (.error ⟨"BadStep", [.int i]⟩)) := by
  have hd : ∀ x : Int, ¬ (0 ≤ x ∧ x < (s.length : Int)) → (!((decide ((0 : Int) ≤ x)) && (decide (x < (s.length : Int))))) = true := fun x hx => by
    by_cases h1 : 0 ≤ x <;> by_cases h2 : x < (s.length : Int) <;> simp [h1, h2] <;> exact hx ⟨h1, h2⟩
  by_cases ha : 0 ≤ a ∧ a < (s.length : Int)
  · have hb := h.elim (fun z => absurd ha z) id
    show ((if (!((decide ((0 : Int) ≤ a)) && (decide (a < (s.length : Int))))) = true then inB _ else some (Bo.nx ()) : Option (Bo Unit (Tm Unit (Except Er (List Box))))).bind _) = _
    rw [if_neg (by simp [ha.1, ha.2])]
    show ((if (!((decide ((0 : Int) ≤ b)) && (decide (b < (s.length : Int))))) = true then inB _ else some (Bo.nx ()) : Option (Bo Unit (Tm Unit (Except Er (List Box))))).bind _) = _
    rw [if_pos (hd b hb)]
    rfl
  · show ((if (!((decide ((0 : Int) ≤ a)) && (decide (a < (s.length : Int))))) = true then inB _ else some (Bo.nx ()) : Option (Bo Unit (Tm Unit (Except Er (List Box))))).bind _) = _
    rw [if_pos (hd a ha)]
    rfl
theorem plan_ok {K : List Box} {ss : List Stp} (e : Env6 pool ns) (hK : ∀ b ∈ K, BoxP pool ns b) (hs : GoodS ns K.length ss) (hl : K.length + ss.length ≤ 1000) : M_run_plan K ss = some (.ok (runP K ss)) := by
  have hz := sz
  unfold M_run_plan
  rw [copies hK []]
  refine wp_is (wp_let (wp_let (wp_bind (wp_forL (fun p s => s = runP K (ss.take p.length)) rfl ?_ ?_))))
  · rintro p x t s es rfl
    obtain ⟨_, hq, hp⟩ := enum_split es
    obtain ⟨r1, r2⟩ := run_ok e hK hs p.length (by omega)
    obtain ⟨g1, g2, g3⟩ := hs p.length x.2 hq
    rw [← r1] at g2 g3
    refine wp_let (wp_bind ?_)
    rw [inner_ok g2 g3]
    refine wp_some ?_
    show Wp ((atI _ _).bind _) _
    rw [(getD_at g2).1, (getD_at g3).1]
    have b2 := r2 _ (getD_at g2).2
    have b3 := r2 _ (getD_at g3).2
    have l2 := b2.len e
    have l3 := b3.len e
    refine wp_let (wp_let ?_)
    rw [join_ok (b2.ok e) (b3.ok e) (by omega)]
    refine wp_let (wp_grd (by omega) (wp_some ?_))
    show _ = runP K (ss.take (p ++ [x]).length)
    rw [List.length_append, List.length_singleton, take_one6 hq, runP_one]
  · rintro s rfl
    refine wp_some ?_
    unfold enumL
    rw [List.length_mapIdx, List.take_of_length_le (Nat.le_refl _)]
theorem plan_bad {K : List Box} {g t : List Stp} {q : Stp} (e : Env6 pool ns) (hK : ∀ b ∈ K, BoxP pool ns b) (hs : GoodS ns K.length g) (hb : BadAt ((K.length + g.length : Nat) : Int) q) (hl : K.length + g.length ≤ 1000) : M_run_plan K (g ++ q :: t) = some (.error ⟨"BadStep", [.int g.length]⟩) := by
  have hz := sz
  unfold M_run_plan
  rw [copies hK []]
  refine wp_is (wp_let (wp_let (wp_bind (wp_forL (fun p s => p.length ≤ g.length ∧ s = runP K (g.take p.length)) ⟨Nat.zero_le _, rfl⟩ ?_ ?_))))
  · rintro p x u s es ⟨hpg, rfl⟩
    obtain ⟨hx1, hq, hp⟩ := enum_split es
    obtain ⟨r1, r2⟩ := run_ok e hK hs p.length hpg
    refine wp_let (wp_bind ?_)
    by_cases hlt : p.length < g.length
    · rw [List.getElem?_append_left hlt] at hq
      obtain ⟨g1, g2, g3⟩ := hs p.length x.2 hq
      rw [← r1] at g2 g3
      rw [inner_ok g2 g3]
      refine wp_some ?_
      show Wp ((atI _ _).bind _) _
      rw [(getD_at g2).1, (getD_at g3).1]
      have b2 := r2 _ (getD_at g2).2
      have b3 := r2 _ (getD_at g3).2
      have l2 := b2.len e
      have l3 := b3.len e
      refine wp_let (wp_let ?_)
      rw [join_ok (b2.ok e) (b3.ok e) (by omega)]
      refine wp_let (wp_grd (by omega) (wp_some ?_))
      show _ ∧ _ = runP K (g.take (p ++ [x]).length)
      rw [List.length_append, List.length_singleton, take_one6 hq, runP_one]
      exact ⟨hlt, rfl⟩
    · have hpe : p.length = g.length := by omega
      rw [hpe, List.getElem?_append_right (Nat.le_refl _), Nat.sub_self, List.getElem?_cons_zero] at hq
      cases hq
      have hb2 : BadAt ((runP K (g.take p.length)).length : Int) x.2 := by rw [r1, hpe]; exact hb
      rw [inner_bad hb2]
      refine wp_some (wp_some ?_)
      show Wp (some _) _
      refine wp_some ?_
      show (Except.error _ : Except Er (List Box)) = _
      rw [hx1, hpe]
  · rintro s ⟨h, _⟩
    unfold enumL at h
    rw [List.length_mapIdx, List.length_append, List.length_cons] at h
    omega
end
end My
end
section
set_option Elab.async false
set_option linter.all false
set_option maxRecDepth 100000
set_option maxHeartbeats 1000000
namespace My
open PySem PySem.Spec PyProof.Rows L2 L3
section
variable {pool : List Int} {ns : List Str}
structure Rel (pool : List Int) (ns : List Str) (x y : Box) : Prop where
  a : BoxP pool ns x
  b : BoxP pool ns y
  g : ∀ k, dget x k = dget y k
structure RelL (pool : List Int) (ns : List Str) (X Y : List Box) : Prop where
  ln : X.length = Y.length
  r : ∀ (i : Nat) (x y : Box), X[i]? = some x → Y[i]? = some y → Rel pool ns x y
theorem RelL.app {X Y : List Box} {x y : Box} (h : RelL pool ns X Y) (r : Rel pool ns x y) : RelL pool ns (X ++ [x]) (Y ++ [y]) :=
  ⟨by rw [List.length_append, List.length_append, h.ln]; rfl, fun i u w hu hw => by
    by_cases c : i < X.length
    · rw [List.getElem?_append_left c] at hu
      rw [List.getElem?_append_left (by rw [← h.ln]; exact c)] at hw
      exact h.r i u w hu hw
    · rw [List.getElem?_append_right (by omega)] at hu
      rw [List.getElem?_append_right (by rw [← h.ln]; omega), ← h.ln] at hw
      cases e : i - X.length with
      | zero => rw [e] at hu hw; cases hu; cases hw; exact r
      | succ m => rw [e] at hu; simp at hu⟩
theorem RelL.at {X Y : List Box} (h : RelL pool ns X Y) {i : Int} (hi : 0 ≤ i ∧ i < (Y.length : Int)) : Rel pool ns (X.getD i.toNat []) (Y.getD i.toNat []) := by
  have h1 := h.ln
  have hx : i.toNat < X.length := by omega
  have hy : i.toNat < Y.length := by omega
  rw [List.getD_eq_getElem?_getD, List.getD_eq_getElem?_getD, List.getElem?_eq_getElem hx, List.getElem?_eq_getElem hy]
  exact h.r i.toNat _ _ (List.getElem?_eq_getElem hx) (List.getElem?_eq_getElem hy)
theorem Rel.join {a b c d : Box} {n : Str} (e : Env6 pool ns) (h1 : Rel pool ns a b) (h2 : Rel pool ns c d) (hn : n ∈ ns) : Rel pool ns (joinP a c n) (l6P b d n) :=
  ⟨.join e h1.a h2.a hn, l6_box h1.b h2.b hn, fun k => by
    rw [get_jP h1.a h2.a hn, get_l6 h1.b hn]
    unfold jF getB
    simp only [h1.g, h2.g]⟩
theorem copied_all {K : List Box} (e : Env6 pool ns) (hK : ∀ b ∈ K, BoxP pool ns b) : compM K () (fun x276 (s278 : Unit) => if true = true then (M_l_copied x276).bind fun r280 => some (some r280, ()) else some (none, ())) = some (K, ()) := by
  have := compM_map (f := fun x276 (s278 : Unit) => if true = true then (M_l_copied x276).bind fun r280 => some (some r280, ()) else some (none, ())) (g := fun x => x) (s := ()) (xs := K) fun b hb => by
    have h := hK b hb
    have hl := h.len e
    rw [if_pos rfl, copied_ok h.nd (by omega)]
    rfl
  rw [this, List.map_id']
theorem joined_wp {K : List Box} {ss : List Stp} (e : Env6 pool ns) (hK : ∀ b ∈ K, BoxP pool ns b) (hs : GoodS ns K.length ss) (hl : K.length + ss.length ≤ 1000) : Wp (M_l_joined K ss) fun Y => RelL pool ns (runP K ss) Y := by
  have hz := sz
  unfold M_l_joined
  rw [copied_all e hK]
  refine wp_let (wp_let (wp_bind (wp_for (fun p s => RelL pool ns (runP K (ss.take p.length)) s) ⟨rfl, fun i x y hx hy => ?_⟩ ?_ ?_)))
  · have hx : K[i]? = some x := hx
    have hy : K[i]? = some y := hy
    rw [hx] at hy
    cases hy
    have := hK x (List.mem_of_getElem? hx)
    exact ⟨this, this, fun _ => rfl⟩
  · intro p x t s es hr
    have hq : ss[p.length]? = some x := by rw [es, List.getElem?_append_right (Nat.le_refl _), Nat.sub_self]; rfl
    have hp := len_split es
    obtain ⟨r1, r2⟩ := run_ok e hK hs p.length (by omega)
    obtain ⟨g1, g2, g3⟩ := hs p.length x hq
    rw [← r1] at g2 g3
    have hln := hr.ln
    rw [hln] at g2 g3
    have h2 := hr.at g2
    have h3 := hr.at g3
    rw [(getD_at g2).1, (getD_at g3).1]
    refine wp_let (wp_let ?_)
    rw [l6_ok e h2.b h3.b g1]
    refine wp_let (wp_grd (by omega) (wp_some ?_))
    rw [List.length_append, List.length_singleton, take_one6 hq, runP_one]
    exact hr.app (h2.join e h3 g1)
  · intro s hr
    rw [List.take_of_length_le (Nat.le_refl _)] at hr
    exact wp_some hr
theorem same_boxes {X Y : List Box} (e : Env6 pool ns) (h : RelL pool ns X Y) (hl : Y.length ≤ 1000) : M_l_same_boxes X Y = some true := by
  have h1 := h.ln
  unfold M_l_same_boxes
  rw [if_neg (by rw [h1]; simp)]
  refine wp_is (wp_grd (rg_lt (by omega) (by omega)) (wp_bind (wp_forL (fun _ _ => True) trivial ?_ fun _ _ => wp_some rfl)))
  intro p x t s es _
  obtain ⟨ex, hp⟩ := rngL_split es
  have hi : 0 ≤ x ∧ x < (Y.length : Int) := by omega
  have r := h.at hi
  rw [(getD_at (K := X) (by rw [h1]; exact hi)).1, (getD_at hi).1]
  refine wp_let (wp_let ?_)
  rw [same_ok (r.a.ok e) r.b.nd r.g]
  exact wp_let (wp_ite (fun hc => by cases hc) fun _ => wp_some trivial)
abbrev BIG : Int := (10 : Int) ^ (13 : Int).toNat
theorem all_new {X Y : List Box} (e : Env6 pool ns) (h : RelL pool ns X Y) (hl : Y.length ≤ 1000) : Wp (M_l_all_new X Y) fun r => r.1 = true := by
  have hz := sz
  have h1 := h.ln
  unfold M_l_all_new
  refine wp_grd (rg_lt (by omega) (by omega)) (wp_bind (wp_for (fun p s => s.length = Y.length ∧ ∀ j x y, s[j]? = some x → Y[j]? = some y → ∀ k, dget x k = if j < p.length then (dget y k).map (· ++ [BIG]) else dget y k) ⟨h1, fun j x y hx hy k => by show _ = if j < 0 then _ else _; rw [if_neg (Nat.not_lt_zero _)]; exact (h.r j x y hx hy).g k⟩ ?_ ?_))
  · rintro p x t s es ⟨hsl, hs⟩
    obtain ⟨ex, hp⟩ := rngL_split es
    have hi : 0 ≤ x ∧ x < (Y.length : Int) := by omega
    have hxn : x.toNat = p.length := by omega
    have hyl : p.length < Y.length := by omega
    obtain ⟨y, hy⟩ : ∃ y, Y[p.length]? = some y := ⟨_, List.getElem?_eq_getElem hyl⟩
    obtain ⟨x0, hx0⟩ : ∃ x, X[p.length]? = some x := ⟨_, List.getElem?_eq_getElem (by omega)⟩
    have r := h.r _ _ _ hx0 hy
    have ey : atI Y x = some y := by
      rw [atI_get hi.1 (by omega), ← List.getElem?_eq_getElem, hxn]; exact hy
    rw [ey]
    refine wp_let (wp_bind (wp_for (fun q s2 => s2.length = Y.length ∧ (∀ j, j ≠ p.length → s2[j]? = s[j]?) ∧ ∀ u, s2[p.length]? = some u → ∀ n, dget u n = if n ∈ q then (dget y n).map (· ++ [BIG]) else dget y n) ⟨hsl, fun _ _ => rfl, fun u hu n => ?_⟩ ?_ ?_))
    · have := hs _ u y hu hy n
      rw [if_neg (Nat.lt_irrefl _)] at this
      rw [this, if_neg List.not_mem_nil]
    · rintro q n u s2 en ⟨l2, o2, g2⟩
      have hn := mem_split en
      have hnq : n ∉ q := nd_split r.b.nd en
      obtain ⟨v, ev⟩ := dget_some hn
      have lv := r.b.side e ev
      obtain ⟨w, hw⟩ : ∃ w, s2[p.length]? = some w := ⟨_, List.getElem?_eq_getElem (by omega)⟩
      have eix : ixN s2.length x = some p.length := by
        unfold ixN
        rw [if_pos hi.1, if_pos (by omega), hxn]
      rw [eix]
      refine wp_let ?_
      rw [hw]
      refine wp_let ?_
      have gw := g2 w hw n
      rw [if_neg hnq, ev] at gw
      rw [gw]
      refine wp_let (wp_grd (by omega) (wp_some ⟨by rw [List.length_set]; exact l2, fun j hj => by rw [List.getElem?_set_ne (fun z => hj z.symm)]; exact o2 j hj, fun c hc m => ?_⟩))
      rw [List.getElem?_set_self (by omega)] at hc
      cases hc
      rw [get_put]
      by_cases em : m = n
      · subst em
        rw [if_pos rfl, if_pos (List.mem_append_right _ List.mem_cons_self), ev]
        rfl
      · rw [if_neg em, g2 w hw m]
        by_cases hm : m ∈ q
        · rw [if_pos hm, if_pos (List.mem_append_left _ hm)]
        · rw [if_neg hm, if_neg (by rw [List.mem_append, List.mem_singleton]; exact fun z => z.elim hm em)]
    · rintro s2 ⟨l2, o2, g2⟩
      refine wp_some ⟨l2, fun j u w hu hw k => ?_⟩
      rw [List.length_append, List.length_singleton]
      by_cases hj : j = p.length
      · subst hj
        rw [hy] at hw
        cases hw
        rw [g2 u hu k, if_pos (Nat.lt_succ_self _)]
        by_cases hk : k ∈ keys y
        · rw [if_pos hk]
        · rw [if_neg hk, dget_none.mpr hk]; rfl
      · rw [o2 j hj] at hu
        rw [hs j u w hu hw k]
        by_cases c : j < p.length
        · rw [if_pos c, if_pos (by omega)]
        · rw [if_neg c, if_neg (by omega)]
  · rintro s ⟨hsl, hs⟩
    rw [rngL_len] at hs
    refine wp_grd (rg_lt (by omega) (by omega)) (wp_bind (wp_forL (fun _ _ => True) trivial ?_ fun _ _ => wp_some rfl))
    intro p x t u es _
    obtain ⟨ex, hp⟩ := rngL_split es
    have hi : 0 ≤ x ∧ x < (Y.length : Int) := by omega
    have hxn : x.toNat = p.length := by omega
    obtain ⟨y, hy⟩ : ∃ y, Y[p.length]? = some y := ⟨_, List.getElem?_eq_getElem (by omega)⟩
    obtain ⟨w, hw⟩ : ∃ w, s[p.length]? = some w := ⟨_, List.getElem?_eq_getElem (by omega)⟩
    obtain ⟨x0, hx0⟩ : ∃ x, X[p.length]? = some x := ⟨_, List.getElem?_eq_getElem (by omega)⟩
    have r := h.r _ _ _ hx0 hy
    have ey : atI Y x = some y := by
      rw [atI_get hi.1 (by omega), ← List.getElem?_eq_getElem, hxn]; exact hy
    have ew : atI s x = some w := by
      rw [atI_get hi.1 (by omega), ← List.getElem?_eq_getElem, hxn]; exact hw
    rw [ey]
    refine wp_let (wp_bind ?_)
    have e2 := forL_go (ρ := Bool × List Box) (s := ()) (xs := keys y) (f := fun x341 s340 => (atI s x).bind fun x343 => (dget x343 x341).bind fun x344 => (some y).bind fun x345 => (dget x345 x341).bind fun x346 => grd (x346.length + ([((10 : Int) ^ (13 : Int).toNat)]).length ≤ sizeLine) (if (!decide (x344 = (x346 ++ ([((10 : Int) ^ (13 : Int).toNat)])))) = true then inB (some (Tm.rt (false, s))) else some (Bo.nx ()))) fun n hn => by
      obtain ⟨v, ev⟩ := dget_some hn
      have lv := r.b.side e ev
      have gw := hs _ w y hw hy n
      rw [if_pos (by omega), ev] at gw
      rw [ew]
      simp only [Option.bind_some]
      rw [gw, ev]
      simp only [Option.bind_some, Option.map_some]
      rw [gp (by simp only [List.length_singleton]; omega), if_neg (by simp)]
    exact wp_of e2 (wp_some trivial)
theorem okSt {ss : List Stp} (h : ∀ q ∈ ss, strOk q.1 = true) : okG (dgL (dgT3 dgStr dgInt dgInt)) ss ss = true := by
  have : (ss.all fun x => (strOk x.1 && (true && true))) = true := by
    rw [List.all_eq_true]
    intro x hx
    rw [h x hx]; rfl
  show ((ss.all fun x => (strOk x.1 && (true && true))) && (ss.all fun x => (strOk x.1 && (true && true)))) = true
  rw [this]; rfl
theorem selfP {K : List Box} (hK : ∀ b ∈ K, BoxP pool ns b) : Paired (fun x y : Box => (keys x).Nodup ∧ (keys y).Nodup ∧ ∀ k, dget x k = dget y k) K K := by
  induction K with
  | nil => exact .nil
  | cons b K ih => exact .cons ⟨(hK b List.mem_cons_self).nd, (hK b List.mem_cons_self).nd, fun _ => rfl⟩ (ih fun c hc => hK c (List.mem_cons_of_mem _ hc))
theorem carried_ok {K : List Box} {ss : List Stp} (e : Env6 pool ns) (hK : ∀ b ∈ K, BoxP pool ns b) (hs : GoodS ns K.length ss) (hl : K.length + ss.length ≤ 1000) : M_l_carried_out K ss = some true := by
  obtain ⟨d1, d2⟩ := deepL (selfP hK)
  have so : ∀ q ∈ ss, strOk q.1 = true := fun q hq => by
    obtain ⟨i, hi, eq⟩ := List.getElem_of_mem hq
    exact e.so _ (hs i q (by rw [List.getElem?_eq_getElem hi, eq])).1
  have hrl := (run_ok e hK hs ss.length (Nat.le_refl _)).1
  rw [List.take_of_length_le (Nat.le_refl _)] at hrl
  unfold M_l_carried_out
  rw [copied_all e hK]
  refine wp_is (wp_let (wp_let (wp_let (wp_then (joined_wp e hK hs hl) fun Y hY => wp_let (wp_grd (by rfl) (wp_bind (wp_forL (fun _ _ => True) trivial ?_ fun _ _ => wp_some rfl)))))))
  intro p x t s _ _
  have hYl := hY.ln
  rw [plan_ok e hK hs hl]
  refine wp_let (wp_let ?_)
  rw [same_boxes e hY (by omega)]
  refine wp_let (wp_bind (wp_ite (fun hc => by cases hc) fun _ => wp_then (all_new e hY (by omega)) fun r hr => wp_some ?_))
  refine wp_ite (fun hc => by rw [hr] at hc; cases hc) fun _ => wp_grd d1 (wp_bind (wp_ite (fun hc => ?_) fun _ => wp_grd (okSt so) (wp_some (wp_ite (fun hc => ?_) fun _ => wp_some trivial))))
  · rw [Bool.not_eq_true'] at hc
    have d2 := d2.symm.trans hc
    cases d2
  · simp at hc
theorem told_bad {K : List Box} {g t : List Stp} {q : Stp} (e : Env6 pool ns) (hK : ∀ b ∈ K, BoxP pool ns b) (hs : GoodS ns K.length g) (hb : BadAt ((K.length + g.length : Nat) : Int) q) (hl : K.length + g.length ≤ 1000) : M_l_told_position K (g ++ q :: t) = some (some (g.length : Int)) := by
  unfold M_l_told_position
  rw [plan_bad e hK hs hb hl]
  rfl
theorem refused_ok {K : List Box} {g t : List Stp} {q : Stp} (e : Env6 pool ns) (hK : ∀ b ∈ K, BoxP pool ns b) (hs : GoodS ns K.length g) (hb : BadAt ((K.length + g.length : Nat) : Int) q) (hl : K.length + g.length ≤ 1000) (so : ∀ s ∈ g ++ q :: t, strOk s.1 = true) {due : Int} (hd : due = g.length) : M_l_refused K (g ++ q :: t) due = some true := by
  subst hd
  obtain ⟨d1, d2⟩ := deepL (selfP hK)
  unfold M_l_refused
  rw [copied_all e hK]
  refine wp_is (wp_let (wp_let (wp_let (wp_grd (by rfl) (wp_bind (wp_forL (fun _ _ => True) trivial ?_ ?_))))))
  · intro p x u s _ _
    rw [told_bad e hK hs hb hl]
    refine wp_let (wp_let ?_)
    have : M_l_is_integer_v_o (some (g.length : Int)) = some true := by unfold M_l_is_integer_v_o; rfl
    rw [this]
    refine wp_let (wp_bind (wp_ite (fun hc => by cases hc) fun _ => wp_bind (wp_ite (fun hc => ?_) fun _ => wp_grd d1 (wp_bind (wp_ite (fun hc => ?_) fun _ => wp_grd (okSt so) (wp_some (wp_some (wp_some (wp_ite (fun hc => ?_) fun _ => wp_some trivial)))))))))
    · simp at hc
    · rw [Bool.not_eq_true'] at hc
      have d2 := d2.symm.trans hc
      cases d2
    · simp at hc
  · intro s _
    show Wp ((M_l_carried_out K _).bind _) _
    rw [cut_take (by omega), show ((g.length : Nat) : Int).toNat = g.length by omega, List.take_left, carried_ok e hK hs hl]
    exact wp_some rfl
end
end My
end
section
set_option Elab.async false
set_option linter.all false
set_option maxRecDepth 100000
set_option maxHeartbeats 1000000
namespace My
open PySem PySem.Spec PyProof.Rows L2 L3
section
variable {pool : List Int} {ns : List Str}
theorem drawn_wp {s : List Int} (hs : Stm s) (e : Env6 pool ns) (h0 : 0 < ns.length) (hp : pool.Pairwise (· < ·)) : Wp (M_l_drawn_sides s ns pool) fun r => BoxP pool ns r.1 ∧ Stm r.2 := by
  have hz := sz
  have hnl := e.nl
  unfold M_l_drawn_sides
  refine wp_next hs (by omega) (by omega) fun r t hr0 hr1 ht => wp_let (wp_let ?_)
  dsimp only
  rw [cut_drop hr0, cut_take hr0]
  have hall : ∀ k, k ∈ ns.drop r.toNat ++ ns.take r.toNat ↔ k ∈ ns := fun k => by
    conv => rhs; rw [← List.take_append_drop r.toNat ns]
    rw [List.mem_append, List.mem_append]
    exact or_comm
  have hlen : (ns.drop r.toNat ++ ns.take r.toNat).length = ns.length := by
    rw [List.length_append, List.length_drop, List.length_take]; omega
  refine wp_grd (by rw [List.length_append] at hlen; omega) (wp_bind (wp_for (fun p st => (keys st.1).Nodup ∧ (∀ k, k ∈ keys st.1 ↔ k ∈ p) ∧ (∀ k x, dget st.1 k = some x → x.Pairwise (· < ·) ∧ ∀ v ∈ x, v ∈ pool) ∧ Stm st.2) ⟨List.nodup_nil, fun k => Iff.rfl, (fun k x h => by rw [dget_nil] at h; cases h), ht⟩ ?_ ?_))
  · rintro p k u ⟨b, st⟩ es ⟨nd, hk, hsd, hst⟩
    dsimp only at nd hk hsd hst ⊢
    have hpl := len_split es
    have hbl := sub_len nd fun k h => (hk k).mp h
    rw [keys_len] at hbl
    refine wp_bind (wp_compM (fun q o s => o.Sublist q ∧ Stm s) (pre := []) (out := []) ⟨.slnil, hst⟩ ?_ ?_)
    · rintro q y u o s _ ⟨ho, hs⟩
      refine wp_next hs (by decide) (by decide) fun r t _ _ ht => wp_ite (fun _ => wp_some ⟨?_, ht⟩) fun _ => wp_some ⟨?_, ht⟩
      · exact ho.append (List.Sublist.refl [y])
      · show (o ++ []).Sublist _
        exact ho.append (List.nil_sublist [y])
    · rintro ⟨o, s⟩ ⟨ho, hs⟩
      have ho : o.Sublist pool := ho
      refine wp_grd (by omega) (wp_some ⟨nodup_put nd, fun j => ?_, fun j x hx => ?_, hs⟩)
      · show j ∈ keys (dput b k o) ↔ _
        rw [mem_keys_put, hk, List.mem_append, List.mem_singleton]
      · have hx : dget (dput b k o) j = some x := hx
        rw [get_put] at hx
        split at hx
        · cases hx; exact ⟨hp.sublist ho, fun v hv => ho.subset hv⟩
        · exact hsd j x hx
  · rintro ⟨b, st⟩ ⟨nd, hk, hsd, hst⟩
    exact wp_some ⟨⟨nd, fun k => (hk k).trans (hall k), hsd⟩, hst⟩
/-- a step that is drawn: its numbers are below max 1 m -/
def Dr (ns : List Str) (m : Int) (q : Stp) : Prop := q.1 ∈ ns ∧ (0 ≤ q.2.1 ∧ q.2.1 < max 1 m) ∧ (0 ≤ q.2.2 ∧ q.2.2 < max 1 m)
theorem good_wp {s : List Int} {st cnt : Int} (hs : Stm s) (e : Env6 pool ns) (h0 : 0 < ns.length) (hst : 0 ≤ st ∧ st ≤ 100) (hc : 0 ≤ cnt ∧ cnt ≤ 500) : Wp (M_l_good_steps s ns st cnt) fun r => (r.1.length : Int) = cnt ∧ (∀ (i : Nat) q, r.1[i]? = some q → Dr ns (st + i) q) ∧ Stm r.2 := by
  have hz := sz
  have hnl := e.nl
  unfold M_l_good_steps
  refine wp_let (wp_grd (rg_lt (by omega) (by omega)) (wp_bind (wp_for (fun p u => u.1.length = p.length ∧ (∀ (i : Nat) q, u.1[i]? = some q → Dr ns (st + i) q) ∧ Stm u.2) ⟨rfl, fun i q h => by simp at h, hs⟩ ?_ ?_)))
  · rintro p x t ⟨l, u⟩ es ⟨hl, hg, hu⟩
    dsimp only at hl hg hu ⊢
    obtain ⟨ex, hp⟩ := rngL_split es
    refine wp_next hu (by omega) (by omega) fun r t hr0 hr1 ht => wp_bind (wp_at hr0 hr1 fun n hn _ => wp_let (wp_next ht (by omega) (by omega) fun a t a0 a1 ht => wp_next ht (by omega) (by omega) fun b t b0 b1 ht => wp_grd (by omega) (wp_some ⟨?_, fun i q h => ?_, ht⟩)))
    · rw [List.length_append, List.length_append, hl]; rfl
    · have h : (l ++ [(n, a, b)])[i]? = some q := h
      by_cases c : i < l.length
      · rw [List.getElem?_append_left c] at h
        exact hg i q h
      · rw [List.getElem?_append_right (by omega)] at h
        cases e1 : i - l.length with
        | zero =>
          rw [e1] at h
          cases h
          have : st + (i : Int) = st + x := by omega
          rw [this]
          exact ⟨hn, ⟨a0, a1⟩, b0, b1⟩
        | succ m => rw [e1] at h; simp at h
  · rintro ⟨l, u⟩ ⟨hl, hg, hu⟩
    have hl : l.length = (rngL 0 cnt.toNat).length := hl
    rw [rngL_len] at hl
    exact wp_some ⟨by show (l.length : Int) = cnt; omega, hg, hu⟩
theorem bad_wp {s : List Int} {q : Stp} {own : Int} (hs : Stm s) (h1 : 1 ≤ own) (h2 : own ≤ 1000) : Wp (M_l_bad_step s q own) fun r => r.1.1 = q.1 ∧ BadAt own r.1 ∧ Stm r.2 := by
  have hbig : (10 : Int) ^ (6 : Int).toNat = 1000000 := by decide +kernel
  unfold M_l_bad_step
  rw [hbig]
  refine wp_next hs (by decide) (by decide) fun a t a0 a1 ht => wp_next ht (by decide) (by decide) fun b t b0 b1 ht => wp_bind (wp_at b0 (by simpa using b1) fun v hv _ => wp_let (wp_next ht (by decide) (by decide) fun w t _ _ ht => wp_let ?_))
  have hb : ¬ (0 ≤ v ∧ v < own) := by
    simp only [List.mem_cons, List.not_mem_nil, or_false] at hv
    omega
  refine wp_ite (fun _ => wp_some ⟨rfl, .inl hb, ht⟩) fun _ => wp_ite (fun _ => wp_some ⟨rfl, .inr hb, ht⟩) fun _ => wp_some ⟨rfl, .inl hb, ht⟩
theorem split_at {ss : List Stp} {k : Nat} {q : Stp} (h : ss[k]? = some q) : ss = ss.take k ++ q :: ss.drop (k + 1) := by
  obtain ⟨hl, e⟩ := List.getElem?_eq_some_iff.mp h
  rw [← e, ← List.drop_eq_getElem_cons hl, List.take_append_drop]
theorem refused_at {K : List Box} {ss : List Stp} {q : Stp} {k : Nat} (e : Env6 pool ns) (hK : ∀ b ∈ K, BoxP pool ns b) (hs : ∀ (i : Nat) p, i < k → ss[i]? = some p → GoodAt ns ((K.length + i : Nat) : Int) p) (hq : ss[k]? = some q) (hb : BadAt ((K.length + k : Nat) : Int) q) (hl : K.length + ss.length ≤ 1000) (so : ∀ s ∈ ss, s.1 ∈ ns) {due : Int} (hd : due = k) : M_l_refused K ss due = some true := by
  have hkl := (List.getElem?_eq_some_iff.mp hq).1
  have es := split_at hq
  have htl : (ss.take k).length = k := by rw [List.length_take]; omega
  have gs : GoodS ns K.length (ss.take k) := fun i p hp => by
    have hi : i < k := by
      have := (List.getElem?_eq_some_iff.mp hp).1
      omega
    rw [List.getElem?_take_of_lt hi] at hp
    exact hs i p hi hp
  have h := refused_ok (due := due) (t := ss.drop (k + 1)) e hK gs (q := q) (by rw [htl]; exact hb) (by omega) (fun s hs => e.so _ (so s (by rw [es]; exact hs))) (by rw [htl]; exact hd)
  rw [← es] at h
  exact h
end
theorem law_ok (xs : List Int) : M_law xs = some true := by
  have hz := sz
  unfold M_law
  refine wp_is (wp_stream (by decide) fun t ht => wp_let (wp_next ht (by decide) (by decide) fun lg t _ _ ht => wp_let ?_))
  generalize decide (lg = 0) = large
  have hcnt : Wp (if large = true then some ((5 : Int), t) else (M_l_next t (4 : Int)).bind fun r433 => some (((1 : Int) + (r433.1)), r433.2)) fun c => (1 ≤ c.1 ∧ c.1 ≤ 5) ∧ Stm c.2 :=
    wp_ite (fun _ => wp_some ⟨⟨(by decide : (1 : Int) ≤ 5), (by decide : (5 : Int) ≤ 5)⟩, ht⟩) fun _ => wp_next ht (by decide) (by decide) fun r t _ _ ht => wp_some ⟨⟨by show 1 ≤ 1 + r; omega, by show 1 + r ≤ 5; omega⟩, ht⟩
  refine wp_bind (wp_mono hcnt fun c ⟨hc, ht⟩ => wp_then (names_wp ht (by omega) (by omega)) fun ns ⟨hn, ht⟩ => wp_let (wp_next ht (by decide) (by decide) fun pn t _ _ ht => wp_then (pool_lt ht (by omega) (by omega)) fun pool ⟨pl, plt, ht⟩ => wp_let (wp_let ?_)))
  have hnl := hn.ln
  have e : Env6 pool.1 ns.1 := ⟨by omega, by omega, hn.ok⟩
  have h0 : 0 < ns.1.length := by omega
  have hN : Wp (if large = true then (M_l_next pool.2 (13 : Int)).bind fun r447 => some (((12 : Int) + (r447.1)), r447.2) else (M_l_next pool.2 (6 : Int)).bind fun r448 => some (r448.1, r448.2)) fun c => (0 ≤ c.1 ∧ c.1 ≤ 24) ∧ Stm c.2 :=
    wp_ite (fun _ => wp_next ht (by decide) (by decide) fun r t _ _ ht => wp_some ⟨⟨by show 0 ≤ 12 + r; omega, by show 12 + r ≤ 24; omega⟩, ht⟩) fun _ => wp_next ht (by decide) (by decide) fun r t _ _ ht => wp_some ⟨⟨by show 0 ≤ r; omega, by show r ≤ 24; omega⟩, ht⟩
  refine wp_bind (wp_mono hN fun N ⟨hN, ht⟩ => wp_grd (rg_lt (by omega) (by omega)) (wp_bind (wp_for (fun p st => st.1.length = p.length ∧ (∀ b ∈ st.1, BoxP pool.1 ns.1 b) ∧ Stm st.2) ⟨rfl, fun _ h => absurd h List.not_mem_nil, ht⟩ ?_ ?_)))
  · rintro p x t ⟨bs, st⟩ es ⟨hl, hb, hst⟩
    dsimp only at hl hb hst ⊢
    have hp := (rngL_split es).2
    refine wp_then (drawn_wp hst e h0 plt) fun r ⟨hr, hr2⟩ => wp_grd (by omega) (wp_some ⟨?_, fun b hbm => ?_, hr2⟩)
    · rw [List.length_append, List.length_append, hl]; rfl
    · rcases List.mem_append.mp hbm with z | z
      · exact hb b z
      · rw [List.mem_singleton.mp z]; exact hr
  rintro ⟨K, st⟩ ⟨hKl, hK, _⟩
  have hKl : K.length = (rngL 0 N.1.toNat).length := hKl
  rw [rngL_len] at hKl
  dsimp only at hK ⊢
  refine wp_stream (by decide) fun t ht => wp_let ?_
  have hC : Wp (if large = true then (M_l_next t (21 : Int)).bind fun r461 => some (((20 : Int) + (r461.1)), r461.2) else (M_l_next t (9 : Int)).bind fun r462 => some (r462.1, r462.2)) fun c => (0 ≤ c.1 ∧ c.1 ≤ 40) ∧ Stm c.2 :=
    wp_ite (fun _ => wp_next ht (by decide) (by decide) fun r t _ _ ht => wp_some ⟨⟨by show 0 ≤ 20 + r; omega, by show 20 + r ≤ 40; omega⟩, ht⟩) fun _ => wp_next ht (by decide) (by decide) fun r t _ _ ht => wp_some ⟨⟨by show 0 ≤ r; omega, by show r ≤ 40; omega⟩, ht⟩
  refine wp_bind (wp_mono hC fun C ⟨hC, ht⟩ => wp_let (wp_next ht (by decide) (by decide) fun m t _ _ ht => wp_bind ?_))
  have hM : Wp (if (decide (m = (23 : Int))) = true then (M_l_next t (2 : Int)).bind fun r506 => (some (((300 : Int) + (r506.1)) : Int)).bind fun x507 => some (x507, r506.2) else some (C.1, t)) fun c => (0 ≤ c.1 ∧ c.1 ≤ 301) ∧ Stm c.2 :=
    wp_ite (fun _ => wp_next ht (by decide) (by decide) fun r t _ _ ht => wp_some ⟨⟨by show 0 ≤ 300 + r; omega, by show 300 + r ≤ 301; omega⟩, ht⟩) fun _ => wp_some ⟨⟨hC.1, by show C.1 ≤ 301; omega⟩, ht⟩
  refine wp_mono hM fun cnt ⟨hcn, ht⟩ => wp_then (good_wp ht e h0 (st := (K.length : Int)) ⟨by omega, by omega⟩ (by omega)) fun ss ⟨hsl, hsg, ht⟩ => wp_let ?_
  obtain ⟨ss, ssx⟩ := ss
  dsimp only at hsl hsg ht ⊢
  have hall : K.length + ss.length ≤ 1000 := by omega
  have good : 0 < K.length → GoodS ns.1 K.length ss := fun hk i q hq => by
    obtain ⟨g1, g2, g3⟩ := hsg i q hq
    rw [Int.max_eq_right (by omega)] at g2 g3
    exact ⟨g1, ⟨g2.1, by omega⟩, g3.1, by omega⟩
  have names : ∀ s ∈ ss, s.1 ∈ ns.1 := fun s hs => by
    obtain ⟨i, hi, eq⟩ := List.getElem_of_mem hs
    exact (hsg i s (by rw [List.getElem?_eq_getElem hi, eq])).1
  have h1 : Wp (if (decide ((0 : Int) < (K.length : Int))) = true then (M_l_carried_out K ss).bind fun r475 => some ((!r475), ()) else some (false, ())) fun b => b = (false, ()) :=
    wp_ite (fun h => by rw [carried_ok e hK (good (by have := of_decide_eq_true h; omega)) hall]; exact wp_some rfl) fun _ => wp_some rfl
  refine wp_bind (wp_mono h1 fun b hb => ?_)
  subst hb
  refine wp_ite (fun h => by cases h) fun _ => wp_ite (fun h => ?_) fun h => ?_
  · have hsn : ss = [] := by
      have := of_decide_eq_true h
      exact List.eq_nil_of_length_eq_zero (by omega)
    rw [carried_ok e hK (by rw [hsn]; intro i q hq; simp at hq) hall]
    exact wp_some rfl
  have hs0 : ss.length ≠ 0 := fun z => h (decide_eq_true (by omega))
  refine wp_stream (by decide) fun t ht => wp_let (wp_ite (fun h2 => ?_) fun h2 => ?_)
  · have hK0 : K.length = 0 := by have := of_decide_eq_true h2; omega
    obtain ⟨q, hq⟩ : ∃ q, ss[0]? = some q := ⟨_, List.getElem?_eq_getElem (by omega)⟩
    rw [refused_at e hK (k := 0) (fun i p hi _ => absurd hi (Nat.not_lt_zero _)) hq (.inl (by omega)) hall names (due := 0) rfl]
    exact wp_some rfl
  have hK1 : 0 < K.length := Nat.pos_of_ne_zero fun z => h2 (decide_eq_true (by omega))
  have hgd := good hK1
  refine wp_next ht (by decide) (by decide) fun z t _ _ ht => wp_ite (fun _ => wp_some rfl) fun _ => wp_let (wp_next ht (by decide) (by decide) fun r t r0 r1 ht => wp_grd (rg_lt (by show _ ≤ 1 + r; omega) (by show 1 + r ≤ _; omega)) (wp_bind (wp_for (fun p st => st.2.2.length = ss.length ∧ (0 ≤ st.1 ∧ st.1 ≤ ss.length) ∧ (∀ (i : Nat) q, (i : Int) < st.1 → st.2.2[i]? = some q → GoodAt ns.1 ((K.length + i : Nat) : Int) q) ∧ (∀ s ∈ st.2.2, s.1 ∈ ns.1) ∧ (∀ q, st.1 < ss.length → st.2.2[st.1.toNat]? = some q → BadAt ((K.length + st.1.toNat : Nat) : Int) q) ∧ (p ≠ [] → st.1 < ss.length) ∧ Stm st.2.1) ⟨rfl, ⟨by omega, by omega⟩, fun i q _ hq => hgd i q hq, names, fun q hl => absurd hl (by show ¬ (ss.length : Int) < ss.length; omega), fun h => absurd rfl h, ht⟩ ?_ ?_)))
  · rintro p x u ⟨due, st, S⟩ es ⟨hl, hd, hg, hnm, hbd, _, hst⟩
    dsimp only at hl hd hg hnm hbd hst ⊢
    refine wp_next hst (by omega) (by omega) fun a t a0 a1 ht => wp_let (wp_bind (wp_at a0 a1 fun q hq hqe => wp_then (bad_wp ht (by omega) (by omega)) fun w ⟨w1, w2, w3⟩ => ?_))
    have hal : a.toNat < S.length := by omega
    have eix : ixN S.length a = some a.toNat := by
      unfold ixN
      rw [if_pos a0, if_pos (by omega)]
    rw [eix]
    refine wp_let (wp_let (wp_some ⟨by show (S.set _ _).length = _; rw [List.length_set]; exact hl, ⟨by show 0 ≤ min due a; omega, by show min due a ≤ _; omega⟩, fun i y hi hy => ?_, fun s hs => ?_, fun y hlt hy => ?_, fun _ => by show min due a < _; omega, w3⟩))
    · have hi : (i : Int) < min due a := hi
      have hy : (S.set a.toNat w.1)[i]? = some y := hy
      rw [List.getElem?_set_ne (by omega)] at hy
      exact hg i y (by omega) hy
    · rcases List.mem_or_eq_of_mem_set (show s ∈ S.set a.toNat w.1 from hs) with z | z
      · exact hnm s z
      · rw [z, w1]; exact hnm q hq
    · have hlt : min due a < ss.length := hlt
      have hy : (S.set a.toNat w.1)[(min due a).toNat]? = some y := hy
      show BadAt ((K.length + (min due a).toNat : Nat) : Int) y
      by_cases c : a ≤ due
      · rw [Int.min_eq_right c] at hy ⊢
        rw [List.getElem?_set_self hal] at hy
        cases hy
        rw [show ((K.length + a.toNat : Nat) : Int) = (K.length : Int) + a by omega]
        exact w2
      · rw [Int.min_eq_left (by omega)] at hy hlt ⊢
        rw [List.getElem?_set_ne (by omega)] at hy
        exact hbd y hlt hy
  · rintro ⟨due, st, S⟩ ⟨hl, hd, hg, hnm, hbd, hlt, _⟩
    dsimp only at hl hd hg hnm hbd hlt ⊢
    have hlt := hlt fun z => by
      have := congrArg List.length z
      rw [rngL_len, List.length_nil] at this
      have : (1 + r).toNat = 0 := this
      omega
    obtain ⟨q, hq⟩ : ∃ q, S[due.toNat]? = some q := ⟨_, List.getElem?_eq_getElem (by omega)⟩
    rw [refused_at e hK (k := due.toNat) (fun i p hi hp => hg i p (by omega) hp) hq (hbd q hlt hq) (by omega) hnm (by omega)]
    exact wp_some rfl
end My
end
section
set_option Elab.async false
set_option linter.all false
set_option maxRecDepth 100000
set_option maxHeartbeats 0
namespace My
open PySem PySem.Spec PyProof.Rows L2 L3
def d_common : He.DefD := ⟨("common", none), "common", "common", defArgs (top 27), defBody (top 27), defScope (top 27), [], []⟩
def d_united : He.DefD := ⟨("united", none), "united", "united", defArgs (top 28), defBody (top 28), defScope (top 28), [], []⟩
def d_copy_box : He.DefD := ⟨("copy_box", none), "copy_box", "copy_box", defArgs (top 30), defBody (top 30), defScope (top 30), [], []⟩
def d_meet_boxes : He.DefD := ⟨("meet_boxes", none), "meet_boxes", "meet_boxes", defArgs (top 31), defBody (top 31), defScope (top 31), [], []⟩
def d_join_boxes : He.DefD := ⟨("join_boxes", none), "join_boxes", "join_boxes", defArgs (top 32), defBody (top 32), defScope (top 32), [], []⟩
def d_run_plan : He.DefD := ⟨("run_plan", none), "run_plan", "run_plan", defArgs (top 34), defBody (top 34), defScope (top 34), [], []⟩
def d__law_is_integer : He.DefD := ⟨("_law_is_integer", none), "_law_is_integer", "_law_is_integer", defArgs (top 36), defBody (top 36), defScope (top 36), [], []⟩
def d__law_stream : He.DefD := ⟨("_law_stream", none), "_law_stream", "_law_stream", defArgs (top 37), defBody (top 37), defScope (top 37), [], []⟩
def d__law_next : He.DefD := ⟨("_law_next", none), "_law_next", "_law_next", defArgs (top 38), defBody (top 38), defScope (top 38), [], []⟩
def d__law_names : He.DefD := ⟨("_law_names", none), "_law_names", "_law_names", defArgs (top 39), defBody (top 39), defScope (top 39), [], []⟩
def d__law_pool : He.DefD := ⟨("_law_pool", none), "_law_pool", "_law_pool", defArgs (top 40), defBody (top 40), defScope (top 40), [], []⟩
def d__law_is_side : He.DefD := ⟨("_law_is_side", none), "_law_is_side", "_law_is_side", defArgs (top 41), defBody (top 41), defScope (top 41), [], []⟩
def d__law_same_sides : He.DefD := ⟨("_law_same_sides", none), "_law_same_sides", "_law_same_sides", defArgs (top 42), defBody (top 42), defScope (top 42), [], []⟩
def d__law_drawn_sides : He.DefD := ⟨("_law_drawn_sides", none), "_law_drawn_sides", "_law_drawn_sides", defArgs (top 43), defBody (top 43), defScope (top 43), [], []⟩
def d__law_copied : He.DefD := ⟨("_law_copied", none), "_law_copied", "_law_copied", defArgs (top 44), defBody (top 44), defScope (top 44), [], []⟩
def d__law_join : He.DefD := ⟨("_law_join", none), "_law_join", "_law_join", defArgs (top 45), defBody (top 45), defScope (top 45), [], []⟩
def d__law_joined : He.DefD := ⟨("_law_joined", none), "_law_joined", "_law_joined", defArgs (top 46), defBody (top 46), defScope (top 46), [], []⟩
def d__law_good_steps : He.DefD := ⟨("_law_good_steps", none), "_law_good_steps", "_law_good_steps", defArgs (top 47), defBody (top 47), defScope (top 47), [], []⟩
def d__law_bad_step : He.DefD := ⟨("_law_bad_step", none), "_law_bad_step", "_law_bad_step", defArgs (top 48), defBody (top 48), defScope (top 48), [], []⟩
def d__law_same_boxes : He.DefD := ⟨("_law_same_boxes", none), "_law_same_boxes", "_law_same_boxes", defArgs (top 49), defBody (top 49), defScope (top 49), [], []⟩
def d__law_all_new : He.DefD := ⟨("_law_all_new", none), "_law_all_new", "_law_all_new", defArgs (top 50), defBody (top 50), defScope (top 50), [], []⟩
def d__law_carried_out : He.DefD := ⟨("_law_carried_out", none), "_law_carried_out", "_law_carried_out", defArgs (top 51), defBody (top 51), defScope (top 51), [], []⟩
def d__law_told_position : He.DefD := ⟨("_law_told_position", none), "_law_told_position", "_law_told_position", defArgs (top 52), defBody (top 52), defScope (top 52), [], []⟩
def d__law_refused : He.DefD := ⟨("_law_refused", none), "_law_refused", "_law_refused", defArgs (top 53), defBody (top 53), defScope (top 53), [], []⟩
def d_law : He.DefD := ⟨("law", none), "law", "law", defArgs (top 54), defBody (top 54), defScope (top 54), [], []⟩
def cBody (s : Stmt) : List Stmt := match s with
  | .ClassDef _ _ _ b _ _ _ _ _ _ _ => b
  | _ => []
def ini (i : Nat) : Stmt := (cBody (top i)).getD 0 (.Pass ⟨0, 0, 0, 0⟩)
def x_BadStep : XD := ⟨"BadStep", "BadStep.__init__", defArgs (ini 12), defBody (ini 12), defScope (ini 12), ["position"]⟩
theorem tx_BadStep : XTx (PySem.Challenge.rw_curbdesk_k06_run_plan).prog x_BadStep := ⟨by decide, by rfl, ⟨_, _, _, _, _, _, _, _, _, _, rfl, .cons (by decide) (.nil), rfl, rfl, rfl⟩, rfl, rfl, rfl, by decide +kernel, rfl, rfl, rfl, by decide +kernel, by decide, fun _ _ _ _ _ _ us hl => match us, hl with | [_, _], _ => rfl⟩
def xs : List XD := [x_BadStep]
def fn : List He.DefD := [d_common, d_united, d_copy_box, d_meet_boxes, d_join_boxes, d_run_plan, d__law_is_integer, d__law_stream, d__law_next, d__law_names, d__law_pool, d__law_is_side, d__law_same_sides, d__law_drawn_sides, d__law_copied, d__law_join, d__law_joined, d__law_good_steps, d__law_bad_step, d__law_same_boxes, d__law_all_new, d__law_carried_out, d__law_told_position, d__law_refused, d_law]
def fa : List He.Fa := [.glo "common", .glo "united", .glo "copy_box", .glo "meet_boxes", .glo "join_boxes", .glo "run_plan", .glo "_law_is_integer", .glo "_law_stream", .glo "_law_next", .glo "_law_names", .glo "_law_pool", .glo "_law_is_side", .glo "_law_same_sides", .glo "_law_drawn_sides", .glo "_law_copied", .glo "_law_join", .glo "_law_joined", .glo "_law_good_steps", .glo "_law_bad_step", .glo "_law_same_boxes", .glo "_law_all_new", .glo "_law_carried_out", .glo "_law_told_position", .glo "_law_refused", .glo "law", .glo "BadStep", .glo "UnknownName", .glo "RepeatedName", .glo "UnknownValue", .glo "RepeatedValue", .glo "UnknownKey", .glo "RepeatedKey", .glo "EmptyRule", .glo "BadRow", .glo "BadBounds", .glo "BadNumber", .glo "NoMark", .glo "NotStruck", .glo "BadOrder", .glo "NotBare", .glo "NoClash", .glo "HoldsAnswer", .glo "BadLine", .glo "UnknownLine", .glo "BadText", .glo "NothingToUndo", .glo "NothingToRedo", .glo "UnknownStep", .glo "BadDeed", .glo "DeskError", .free "ValueError", .free "all", .free "bool", .free "dict", .free "enumerate", .free "int", .free "isinstance", .free "len", .free "list", .free "max", .free "min", .free "range", .free "set", .free "sorted", .free "super"]
def loose0 : List PySem.Str := ["DeskError", "UnknownName", "RepeatedName", "UnknownValue", "RepeatedValue", "UnknownKey", "RepeatedKey", "EmptyRule", "BadRow", "BadBounds", "BadNumber", "BadStep", "NoMark", "NotStruck", "BadOrder", "NotBare", "NoClash", "HoldsAnswer", "BadLine", "UnknownLine", "BadText", "NothingToUndo", "NothingToRedo", "UnknownStep", "BadDeed", "common", "united", "copy_box", "meet_boxes", "join_boxes"]
def loose1 : List PySem.Str := ["run_plan", "_law_is_integer", "_law_stream", "_law_next", "_law_names", "_law_pool", "_law_is_side", "_law_same_sides", "_law_drawn_sides", "_law_copied", "_law_join", "_law_joined", "_law_good_steps", "_law_bad_step", "_law_same_boxes", "_law_all_new", "_law_carried_out", "_law_told_position", "_law_refused"]
def loose : List PySem.Str := loose0 ++ loose1
abbrev R : PySem.W.OpenRow := PySem.W.OpenLaw.row PySem.Challenge.rw_curbdesk_k06_run_plan
abbrev hk : PySem.W.Hook := hookX 4 R.prog fa fn xs rsL csL
def ob (s : PySem.W.SharedT) : AlX := obsXG 4 R.prog fa fn xs rsL csL (HandSHeadRun.getT s)
theorem ob_eq (s : PySem.W.SharedT) : ob s = hk.obs s.abs := obsXG_eq (HandSHeadRun.getT_eq s)
theorem run (w : World) : HandSHeadRun.RunEq R (PySem.W.view R.prog [54]) hk ob 30000 loose w := by
  intro os
  kernel_rfl
theorem facts {w : World} {K : PySem.W.Frag} {h : Heap} {mg : Str → Option Value} {f : Addr} (X : K.In h) (G : h.Ns mainGlobals mg) (hfa : mg ("law" : Str) = some (.ref f)) (cx : SaysX R.prog fa fn xs rsL csL K) :
    ∃ fd : FuncData, (∀ (s : Shared) (v : Value), BindsTo s fd ⟨[v], []⟩ [("_law_script", v)]) ∧ ∀ base : Heap, K.In base → base.Ns mainGlobals mg → FnOk R.prog w K mg base CX0 7 f fd ["_law_script"] (Sp_S K M_law) := by
  have c := cx.d
  obtain ⟨fd_common, F_common⟩ := c.def_ 0 (d := d_common) rfl
  obtain ⟨fd_united, F_united⟩ := c.def_ 1 (d := d_united) rfl
  obtain ⟨fd_copy_box, F_copy_box⟩ := c.def_ 2 (d := d_copy_box) rfl
  obtain ⟨fd_meet_boxes, F_meet_boxes⟩ := c.def_ 3 (d := d_meet_boxes) rfl
  obtain ⟨fd_join_boxes, F_join_boxes⟩ := c.def_ 4 (d := d_join_boxes) rfl
  obtain ⟨fd_run_plan, F_run_plan⟩ := c.def_ 5 (d := d_run_plan) rfl
  obtain ⟨fd__law_is_integer, F__law_is_integer⟩ := c.def_ 6 (d := d__law_is_integer) rfl
  obtain ⟨fd__law_stream, F__law_stream⟩ := c.def_ 7 (d := d__law_stream) rfl
  obtain ⟨fd__law_next, F__law_next⟩ := c.def_ 8 (d := d__law_next) rfl
  obtain ⟨fd__law_names, F__law_names⟩ := c.def_ 9 (d := d__law_names) rfl
  obtain ⟨fd__law_pool, F__law_pool⟩ := c.def_ 10 (d := d__law_pool) rfl
  obtain ⟨fd__law_is_side, F__law_is_side⟩ := c.def_ 11 (d := d__law_is_side) rfl
  obtain ⟨fd__law_same_sides, F__law_same_sides⟩ := c.def_ 12 (d := d__law_same_sides) rfl
  obtain ⟨fd__law_drawn_sides, F__law_drawn_sides⟩ := c.def_ 13 (d := d__law_drawn_sides) rfl
  obtain ⟨fd__law_copied, F__law_copied⟩ := c.def_ 14 (d := d__law_copied) rfl
  obtain ⟨fd__law_join, F__law_join⟩ := c.def_ 15 (d := d__law_join) rfl
  obtain ⟨fd__law_joined, F__law_joined⟩ := c.def_ 16 (d := d__law_joined) rfl
  obtain ⟨fd__law_good_steps, F__law_good_steps⟩ := c.def_ 17 (d := d__law_good_steps) rfl
  obtain ⟨fd__law_bad_step, F__law_bad_step⟩ := c.def_ 18 (d := d__law_bad_step) rfl
  obtain ⟨fd__law_same_boxes, F__law_same_boxes⟩ := c.def_ 19 (d := d__law_same_boxes) rfl
  obtain ⟨fd__law_all_new, F__law_all_new⟩ := c.def_ 20 (d := d__law_all_new) rfl
  obtain ⟨fd__law_carried_out, F__law_carried_out⟩ := c.def_ 21 (d := d__law_carried_out) rfl
  obtain ⟨fd__law_told_position, F__law_told_position⟩ := c.def_ 22 (d := d__law_told_position) rfl
  obtain ⟨fd__law_refused, F__law_refused⟩ := c.def_ 23 (d := d__law_refused) rfl
  obtain ⟨fd_law, F_law⟩ := c.def_ 24 (d := d_law) rfl
  have e := hfa.symm.trans (He.glo_ok X G (c.fact 24 (f := .glo "law") rfl))
  cases e
  have b := FunD.bindsA (ps := ["_law_script"]) F_law fun _ _ _ _ _ _ us hl => match us, hl with | [_], _ => rfl
  have gl : ∀ x ∈ rsL, mg x = some (.ref (He.ga K x)) := by
    intro x hx
    simp only [rsL, List.mem_cons, List.not_mem_nil, or_false] at hx
    rcases hx with rfl
    · exact He.glo_ok X G (c.fact 25 (f := .glo "BadStep") rfl)
  have xc : ∀ x ∈ rsL, XcT R.prog K mg x := by
    intro x hx
    simp only [rsL, List.mem_cons, List.not_mem_nil, or_false] at hx
    rcases hx with rfl
    · exact cx.xc 0 (d := x_BadStep) rfl tx_BadStep (gl _ (by decide +kernel)) rfl
  have gc : ∀ y ∈ csL, y = "ValueError" ∧ mg y = none ∨ y ≠ "ValueError" ∧ mg y = some (.ref (He.ga K y)) := by
    intro y hy
    simp only [csL, List.mem_cons, List.not_mem_nil, or_false] at hy
    rcases hy with rfl | rfl | rfl | rfl | rfl | rfl | rfl | rfl | rfl | rfl | rfl | rfl | rfl | rfl | rfl | rfl | rfl | rfl | rfl | rfl | rfl | rfl | rfl | rfl | rfl | rfl
    · exact .inr ⟨by decide, He.glo_ok X G (c.fact 25 (f := .glo "BadStep") rfl)⟩
    · exact .inr ⟨by decide, He.glo_ok X G (c.fact 26 (f := .glo "UnknownName") rfl)⟩
    · exact .inr ⟨by decide, He.glo_ok X G (c.fact 27 (f := .glo "RepeatedName") rfl)⟩
    · exact .inr ⟨by decide, He.glo_ok X G (c.fact 28 (f := .glo "UnknownValue") rfl)⟩
    · exact .inr ⟨by decide, He.glo_ok X G (c.fact 29 (f := .glo "RepeatedValue") rfl)⟩
    · exact .inr ⟨by decide, He.glo_ok X G (c.fact 30 (f := .glo "UnknownKey") rfl)⟩
    · exact .inr ⟨by decide, He.glo_ok X G (c.fact 31 (f := .glo "RepeatedKey") rfl)⟩
    · exact .inr ⟨by decide, He.glo_ok X G (c.fact 32 (f := .glo "EmptyRule") rfl)⟩
    · exact .inr ⟨by decide, He.glo_ok X G (c.fact 33 (f := .glo "BadRow") rfl)⟩
    · exact .inr ⟨by decide, He.glo_ok X G (c.fact 34 (f := .glo "BadBounds") rfl)⟩
    · exact .inr ⟨by decide, He.glo_ok X G (c.fact 35 (f := .glo "BadNumber") rfl)⟩
    · exact .inr ⟨by decide, He.glo_ok X G (c.fact 36 (f := .glo "NoMark") rfl)⟩
    · exact .inr ⟨by decide, He.glo_ok X G (c.fact 37 (f := .glo "NotStruck") rfl)⟩
    · exact .inr ⟨by decide, He.glo_ok X G (c.fact 38 (f := .glo "BadOrder") rfl)⟩
    · exact .inr ⟨by decide, He.glo_ok X G (c.fact 39 (f := .glo "NotBare") rfl)⟩
    · exact .inr ⟨by decide, He.glo_ok X G (c.fact 40 (f := .glo "NoClash") rfl)⟩
    · exact .inr ⟨by decide, He.glo_ok X G (c.fact 41 (f := .glo "HoldsAnswer") rfl)⟩
    · exact .inr ⟨by decide, He.glo_ok X G (c.fact 42 (f := .glo "BadLine") rfl)⟩
    · exact .inr ⟨by decide, He.glo_ok X G (c.fact 43 (f := .glo "UnknownLine") rfl)⟩
    · exact .inr ⟨by decide, He.glo_ok X G (c.fact 44 (f := .glo "BadText") rfl)⟩
    · exact .inr ⟨by decide, He.glo_ok X G (c.fact 45 (f := .glo "NothingToUndo") rfl)⟩
    · exact .inr ⟨by decide, He.glo_ok X G (c.fact 46 (f := .glo "NothingToRedo") rfl)⟩
    · exact .inr ⟨by decide, He.glo_ok X G (c.fact 47 (f := .glo "UnknownStep") rfl)⟩
    · exact .inr ⟨by decide, He.glo_ok X G (c.fact 48 (f := .glo "BadDeed") rfl)⟩
    · exact .inr ⟨by decide, He.glo_ok X G (c.fact 49 (f := .glo "DeskError") rfl)⟩
    · exact .inl ⟨rfl, He.free_ok X G (c.fact 50 (f := .free "ValueError") rfl)⟩
  have xt : XsT R.prog K mg rsL csL := cx.xst (He.free_ok X G (c.fact 64 (f := .free "super") rfl)) xc gl gc
  have C : Ev R.prog K mg := ⟨xt, ⟨_, fd_common, F_common, He.glo_ok X G (c.fact 0 (f := .glo "common") rfl)⟩, ⟨_, fd_united, F_united, He.glo_ok X G (c.fact 1 (f := .glo "united") rfl)⟩, ⟨_, fd_copy_box, F_copy_box, He.glo_ok X G (c.fact 2 (f := .glo "copy_box") rfl)⟩, ⟨_, fd_meet_boxes, F_meet_boxes, He.glo_ok X G (c.fact 3 (f := .glo "meet_boxes") rfl)⟩, ⟨_, fd_join_boxes, F_join_boxes, He.glo_ok X G (c.fact 4 (f := .glo "join_boxes") rfl)⟩, ⟨_, fd_run_plan, F_run_plan, He.glo_ok X G (c.fact 5 (f := .glo "run_plan") rfl)⟩, ⟨_, fd__law_is_integer, F__law_is_integer, He.glo_ok X G (c.fact 6 (f := .glo "_law_is_integer") rfl)⟩, ⟨_, fd__law_stream, F__law_stream, He.glo_ok X G (c.fact 7 (f := .glo "_law_stream") rfl)⟩, ⟨_, fd__law_next, F__law_next, He.glo_ok X G (c.fact 8 (f := .glo "_law_next") rfl)⟩, ⟨_, fd__law_names, F__law_names, He.glo_ok X G (c.fact 9 (f := .glo "_law_names") rfl)⟩, ⟨_, fd__law_pool, F__law_pool, He.glo_ok X G (c.fact 10 (f := .glo "_law_pool") rfl)⟩, ⟨_, fd__law_is_side, F__law_is_side, He.glo_ok X G (c.fact 11 (f := .glo "_law_is_side") rfl)⟩, ⟨_, fd__law_same_sides, F__law_same_sides, He.glo_ok X G (c.fact 12 (f := .glo "_law_same_sides") rfl)⟩, ⟨_, fd__law_drawn_sides, F__law_drawn_sides, He.glo_ok X G (c.fact 13 (f := .glo "_law_drawn_sides") rfl)⟩, ⟨_, fd__law_copied, F__law_copied, He.glo_ok X G (c.fact 14 (f := .glo "_law_copied") rfl)⟩, ⟨_, fd__law_join, F__law_join, He.glo_ok X G (c.fact 15 (f := .glo "_law_join") rfl)⟩, ⟨_, fd__law_joined, F__law_joined, He.glo_ok X G (c.fact 16 (f := .glo "_law_joined") rfl)⟩, ⟨_, fd__law_good_steps, F__law_good_steps, He.glo_ok X G (c.fact 17 (f := .glo "_law_good_steps") rfl)⟩, ⟨_, fd__law_bad_step, F__law_bad_step, He.glo_ok X G (c.fact 18 (f := .glo "_law_bad_step") rfl)⟩, ⟨_, fd__law_same_boxes, F__law_same_boxes, He.glo_ok X G (c.fact 19 (f := .glo "_law_same_boxes") rfl)⟩, ⟨_, fd__law_all_new, F__law_all_new, He.glo_ok X G (c.fact 20 (f := .glo "_law_all_new") rfl)⟩, ⟨_, fd__law_carried_out, F__law_carried_out, He.glo_ok X G (c.fact 21 (f := .glo "_law_carried_out") rfl)⟩, ⟨_, fd__law_told_position, F__law_told_position, He.glo_ok X G (c.fact 22 (f := .glo "_law_told_position") rfl)⟩, ⟨_, fd__law_refused, F__law_refused, He.glo_ok X G (c.fact 23 (f := .glo "_law_refused") rfl)⟩, He.free_ok X G (c.fact 50 (f := .free "ValueError") rfl), He.free_ok X G (c.fact 51 (f := .free "all") rfl), He.free_ok X G (c.fact 52 (f := .free "bool") rfl), He.free_ok X G (c.fact 53 (f := .free "dict") rfl), He.free_ok X G (c.fact 54 (f := .free "enumerate") rfl), He.free_ok X G (c.fact 55 (f := .free "int") rfl), He.free_ok X G (c.fact 56 (f := .free "isinstance") rfl), He.free_ok X G (c.fact 57 (f := .free "len") rfl), He.free_ok X G (c.fact 58 (f := .free "list") rfl), He.free_ok X G (c.fact 59 (f := .free "max") rfl), He.free_ok X G (c.fact 60 (f := .free "min") rfl), He.free_ok X G (c.fact 61 (f := .free "range") rfl), He.free_ok X G (c.fact 62 (f := .free "set") rfl), He.free_ok X G (c.fact 63 (f := .free "sorted") rfl), He.free_ok X G (c.fact 64 (f := .free "super") rfl)⟩
  exact ⟨fd_law, fun s v => b s [v] rfl, fun base _ _ => ok_law C F_law⟩
end My
end
set_option Elab.async false
set_option maxRecDepth 100000
set_option maxHeartbeats 0
open PySem PySem.W PySem.Calls PyProof.Rows
theorem PySem.Challenge.cw_curbdesk_k06_run_plan_holds : PySem.Challenge.rw_curbdesk_k06_run_plan.Holds := by
  w_on; o_law
  refine HandSHeadRun.head_any (r := OpenLaw.row PySem.Challenge.rw_curbdesk_k06_run_plan) (q := view (OpenLaw.row PySem.Challenge.rw_curbdesk_k06_run_plan).prog [54]) (H := My.hk) (ob := My.ob) (M := 30000) (loose := My.loose) (d := HandSHeadRun.topDef (OpenLaw.row PySem.Challenge.rw_curbdesk_k06_run_plan).prog 54) (kwd := []) My.ob_eq
    (by kernel_rfl) (fun s => by kernel_rfl) My.run (by kernel_rfl) (by kernel_rfl) (by kernel_rfl) (by rfl) (by first | assumption | decide +kernel) (by decide +kernel) ⟨rfl, rfl, rfl, rfl, rfl, by decide +kernel⟩ ?hw ?hc
  case hw => w_witness2
  case hc =>
    refine L2.walk_ofE (l := PySem.Challenge.rw_curbdesk_k06_run_plan) (n := 63) (k := 7) (x := "_law_script") (CX := L2.CX0) rfl (by decide) (by kernel_rfl) ⟨rfl, by decide, by decide⟩ ?F (fun _ _ _ _ z => z)
    intro w mg fa h Y G hmg0
    obtain ⟨K, KX, c⟩ := Y
    have hmg : mg ("law" : PySem.Str) = some (.ref fa) := by
      have e : (HandSHeadRun.topDef (OpenLaw.row PySem.Challenge.rw_curbdesk_k06_run_plan).prog 54).name = ("law" : PySem.Str) := by kernel_rfl
      rw [← e]
      exact hmg0
    obtain ⟨fd, hb, hF⟩ := My.facts (w := w) KX G hmg c
    exact ⟨K, fd, L3.Sp_S K My.M_law, KX, hb, fun H a ns hl _ hS => ⟨a, ns, rfl, Nat.le_trans hl (by decide), hS, true, My.law_ok ns, fun _ => rfl⟩, hF⟩
