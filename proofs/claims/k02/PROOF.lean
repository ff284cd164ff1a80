import PyProof.Rows.All
import Wide.All
import OpenK.AllK
import Wide.FinOn
import KE.KStateDown
import HandS.ForMost
import HandS.Flow
import HandS.Style
import HandS.IsInst
import HandS.Strs
import HandS.SortInts
import HandS.Defaults
import HandS.SetFor
import HandS.More
import HandS.Finally
import HandS.DictComp
import HandS.DictEq
import HandS.DeepEq
import HandS.Iter
import HandS.ListEq
import PyProof.NeKinds
import HandS.ExcInit
import KE.KExcSuper
import HandS.ForExc
import HandS.ExcField
import HandS.ExcIs
import KE.KExcIs
import HandS.Wide
import HandS.Exc
import HandS.HeadHook1
import HandS.HeadHook2
import KE.KEqNest
import HandS.Deep
import HandS.Property
import HandS.TupAny
import HandS.Zip
import HandS.Conv
import HandS.Sort
import KE.DatumOrd
import PyProof.P3In
import PyProof.Rows.RowBridgeK
import PyProof.Draws
import HandS.Zip0
import HandS.MakeKw
import HandS.Rev
import HandS.MakeKwOnly
import HandS.HotCalls
import KE.DataCmp
import HandS.TupSets
import HandS.TupLe
import HandS.Head0
import HandS.Head1
import HandS.Head2
import HandS.HeadEnd
import PySem.Challenge.RW_curbdesk_k02_filled_and_trimmed
set_option Elab.async false
set_option linter.all false
set_option maxRecDepth 100000
section
set_option maxHeartbeats 4000000
namespace L3
open PySem PySem.Spec PyProof.Rows L2
abbrev SS := L2.St
def Pst : HO → Prop
  | .frz _ _ => True
  | .tup _ => True
  | .xd _ => True
  | _ => False
def Fzs (H H' : Hp) : Prop := ∀ a o, Pst o → H a = some o → H' a = some o
theorem Fzs.trans {H H1 H2 : Hp} (a : Fzs H H1) (b : Fzs H1 H2) : Fzs H H2 := fun x o p h => b x o p (a x o p h)
def Gr (H H' : Hp) : Prop := ∀ a o, H a = some o → H' a = some o
theorem Gr.trans {H H1 H2 : Hp} (a : Gr H H1) (b : Gr H1 H2) : Gr H H2 := fun x o h => b x o (a x o h)
theorem Gr.new {H : Hp} {p : Addr} {o : HO} (h : H p = none) : Gr H (upd H p o) := fun a u e => by
  rw [upd_ne (ne_of_none e h)]; exact e
theorem Mut.npst {o : HO} (m : Mut (some o)) : ¬ Pst o := by
  cases o <;> first | exact fun z => z | exact fun _ => m
structure Pd where
  pr : Hp → V → Prop
  mono : ∀ {H H' : Hp} {v : V}, Fzs H H' → pr H v → pr H' v
def pInt (i : Int) : Pd := ⟨fun _ v => v = .int i, fun _ h => h⟩
def pStr (x : Str) : Pd := ⟨fun _ v => v = .str x, fun _ h => h⟩
theorem paired_mono {α β : Type} {P Q : α → β → Prop} : ∀ {l₁ : List α} {l₂ : List β}, (∀ a b, P a b → Q a b) → Paired P l₁ l₂ → Paired Q l₁ l₂
  | _, _, _, .nil => .nil
  | _, _, f, .cons r t => .cons (f _ _ r) (paired_mono f t)
def pL {α : Type} (E : α → Pd) (xs : List α) : Pd where
  pr H v := ∃ a o vs, v = .ref a ∧ H a = some (.frz o (.lst vs)) ∧ xs.length ≤ sizeLine ∧ Paired (fun x u => (E x).pr H u) xs vs
  mono := fun f ⟨a, o, vs, e, h, z, p⟩ => ⟨a, o, vs, e, f _ _ trivial h, z, paired_mono (fun x _ => (E x).mono f) p⟩
def pTL {α : Type} (E : α → Pd) (xs : List α) : Pd where
  pr H v := ∃ a vs, v = .ref a ∧ H a = some (.tup vs) ∧ xs.length ≤ sizeLine ∧ Paired (fun x u => (E x).pr H u) xs vs
  mono := fun f ⟨a, vs, e, h, z, p⟩ => ⟨a, vs, e, f _ _ trivial h, z, paired_mono (fun x _ => (E x).mono f) p⟩
def tLk : List Addr → (Hp → Prop) → Hp → Prop
  | [], Φ, H => Φ H
  | d :: G, Φ, H => ∃ u, H d = some u ∧ Mut (some u) ∧ ∀ o, tLk G Φ (upd H d (.frz o u))
theorem tLk.mono {Φ Ψ : Hp → Prop} (f : ∀ H, Φ H → Ψ H) : ∀ {G : List Addr} {H : Hp}, tLk G Φ H → tLk G Ψ H
  | [], _, h => f _ h
  | _ :: _, _, ⟨u, h, m, k⟩ => ⟨u, h, m, fun o => tLk.mono f (k o)⟩
structure Od where
  pr : List Addr → Hp → V → Prop
  pd : Pd
  frame : ∀ {G : List Addr} {H H' : Hp} {v : V}, pr G H v → (∀ a ∈ G, ∀ o, H a = some o → H' a = some o) → Fzs H H' → pr G H' v
  cells : ∀ {G : List Addr} {H : Hp} {v : V}, pr G H v → ∀ a ∈ G, ∃ o, H a = some o ∧ Mut (some o)
  lockd : ∀ {G : List Addr} {H H1 : Hp} {v : V}, pr G H v → (∀ a, a ∉ G → H1 a = H a) → (∀ a ∈ G, ∀ u, H a = some u → ∃ o, H1 a = some (.frz o u)) → pd.pr H1 v
theorem tLk_of {Φ : Hp → Prop} : ∀ {G : List Addr} {H : Hp}, G.Nodup → (∀ a ∈ G, ∃ u, H a = some u ∧ Mut (some u)) → (∀ H1, (∀ a, a ∉ G → H1 a = H a) → (∀ a ∈ G, ∀ u, H a = some u → ∃ o, H1 a = some (.frz o u)) → Φ H1) → tLk G Φ H
  | [], H, _, _, k => k H (fun _ _ => rfl) fun _ h => absurd h List.not_mem_nil
  | d :: G, H, nd, hm, k => by
    obtain ⟨nd1, nd2⟩ := List.nodup_cons.mp nd
    obtain ⟨u, hu, mu⟩ := hm d List.mem_cons_self
    refine ⟨u, hu, mu, fun o => tLk_of nd2 (fun a ha => ?_) fun H1 h1 h2 => k H1 (fun a ha => ?_) fun a ha w hw => ?_⟩
    · rw [upd_ne (fun e => nd1 (by rw [← e]; exact ha))]
      exact hm a (List.mem_cons_of_mem _ ha)
    · rw [h1 a (fun z => ha (List.mem_cons_of_mem _ z)), upd_ne (fun e => ha (by rw [e]; exact List.mem_cons_self))]
    · by_cases e : a = d
      · subst e
        rw [hu] at hw
        cases hw
        exact ⟨o, by rw [h1 a nd1, upd_same]⟩
      · rcases List.mem_cons.mp ha with z | z
        · exact absurd z e
        · exact h2 a z w (by rw [upd_ne e]; exact hw)
theorem Od.cellsN (d : Od) {G : List Addr} {H : Hp} {v : V} (h : d.pr G H v) : ∀ a ∈ G, ∃ o, H a = some o ∧ ¬ Pst o := fun a ha => by
  obtain ⟨o, e, m⟩ := d.cells h a ha
  exact ⟨o, e, Mut.npst m⟩
theorem Od.lock (d : Od) {G : List Addr} {H : Hp} {v : V} {Φ : Hp → Prop} (h : d.pr G H v) (nd : G.Nodup) (k : ∀ H', (∀ a, a ∉ G → H' a = H a) → (∀ a o, H a = some o → ∃ u, H' a = some u) → d.pd.pr H' v → Φ H') : tLk G Φ H :=
  tLk_of nd (d.cells h) fun H1 h1 h2 => k H1 h1 (fun a o e => by
    by_cases ha : a ∈ G
    · obtain ⟨q, hq⟩ := h2 a ha o e
      exact ⟨_, hq⟩
    · exact ⟨o, by rw [h1 a ha]; exact e⟩) (d.lockd h h1 h2)
structure Cel where
  G : List Addr
  v : V
  d : Od
  prm : Option Nat
structure Cell where
  v : V
  d : Od
  prm : Option Nat
def Cel.fg (c : Cel) : Cell := ⟨c.v, c.d, c.prm⟩
structure Fm where
  H0 : Hp
  M : List (List Addr)
abbrev Gm := List (Option Pd)
abbrev Δs := List Cell
def cellsOf (Δ : List Cel) : List Addr := Δ.flatMap Cel.G
structure HkO (F : Fm) (Δ : List Cel) (H : Hp) : Prop where
  base : ∀ a o, F.H0 a = some o → (∀ m ∈ F.M, a ∉ m) → H a = some o
  del : ∀ c ∈ Δ, c.d.pr c.G H c.v
  nod : (cellsOf Δ).Nodup
  own : ∀ c ∈ Δ, ∀ a ∈ c.G, F.H0 a = none ∨ ∃ i m, c.prm = some i ∧ F.M[i]? = some m ∧ a ∈ m
  mem : ∀ m ∈ F.M, ∀ a ∈ m, ∃ o, H a = some o
def Hk (F : Fm) (Δ : Δs) (H : Hp) : Prop := ∃ Δ0 : List Cel, Δ0.map Cel.fg = Δ ∧ HkO F Δ0 H
structure Nm (Γ : Gm) (σ : SS) (H : Hp) : Prop where
  len : σ.length = Γ.length
  gam : ∀ (i : Nat) (p : Pd), Γ[i]? = some (some p) → ∃ v, σ[i]? = some (some v) ∧ p.pr H v
theorem Nm.mono {Γ : Gm} {σ : SS} {H H' : Hp} (k : Nm Γ σ H) (f : Fzs H H') : Nm Γ σ H' := ⟨k.len, fun i p e => by
  obtain ⟨v, h, q⟩ := k.gam i p e
  exact ⟨v, h, p.mono f q⟩⟩
structure Ok (F : Fm) (Γ : Gm) (Δ : Δs) (σ : SS) (H : Hp) : Prop where
  hk : Hk F Δ H
  nm : Nm Γ σ H
theorem Ok.gam {F : Fm} {Γ : Gm} {Δ : Δs} {σ : SS} {H : Hp} (k : Ok F Γ Δ σ H) : ∀ (i : Nat) (p : Pd), Γ[i]? = some (some p) → ∃ v, σ[i]? = some (some v) ∧ p.pr H v := k.nm.gam
theorem Ok.len {F : Fm} {Γ : Gm} {Δ : Δs} {σ : SS} {H : Hp} (k : Ok F Γ Δ σ H) : σ.length = Γ.length := k.nm.len
theorem mem_cellsOf {Δ : List Cel} {c : Cel} {a : Addr} (h : c ∈ Δ) (ha : a ∈ c.G) : a ∈ cellsOf Δ := List.mem_flatMap.mpr ⟨c, h, ha⟩
theorem cellsOf_cons (c : Cel) (Δ : List Cel) : cellsOf (c :: Δ) = c.G ++ cellsOf Δ := by unfold cellsOf; rw [List.flatMap_cons]
theorem HkO.isC {F : Fm} {Δ : List Cel} {H : Hp} (k : HkO F Δ H) {a : Addr} (h : a ∈ cellsOf Δ) : ∃ o, H a = some o ∧ ¬ Pst o := by
  obtain ⟨c, hc, ha⟩ := List.mem_flatMap.mp h
  exact c.d.cellsN (k.del c hc) a ha
theorem HkO.fresh0 {F : Fm} {Δ : List Cel} {H : Hp} (k : HkO F Δ H) {a : Addr} (h : H a = none) : F.H0 a = none := by
  have hm : ∀ m ∈ F.M, a ∉ m := fun m hm z => by
    obtain ⟨o, e⟩ := k.mem m hm a z
    rw [h] at e; cases e
  cases e : F.H0 a with
  | none => rfl
  | some o => rw [k.base a o e hm] at h; cases h
theorem HkO.cons {F : Fm} {Δ : List Cel} {H : Hp} (k : HkO F Δ H) {c : Cel} (nd : c.G.Nodup) (nw : ∀ a ∈ c.G, a ∉ cellsOf Δ) (h : c.d.pr c.G H c.v) (ho : ∀ a ∈ c.G, F.H0 a = none ∨ ∃ i m, c.prm = some i ∧ F.M[i]? = some m ∧ a ∈ m) : HkO F (c :: Δ) H := by
  refine ⟨k.base, fun x hc => ?_, ?_, fun x hc a ha => ?_, k.mem⟩
  · rcases List.mem_cons.mp hc with e | hc
    · subst e; exact h
    · exact k.del x hc
  · rw [cellsOf_cons]
    refine List.nodup_append.mpr ⟨nd, k.nod, fun a ha b hb e => ?_⟩
    subst e
    exact nw a ha hb
  · rcases List.mem_cons.mp hc with e | hc
    · subst e; exact ho a ha
    · exact k.own x hc a ha
def OkN (W : Bool) (F : Fm) (Γ : Gm) (H : Hp) (v : V) (d : Od) (Δ : Δs) (σ : SS) (H' : Hp) : Prop := ∃ (Δ0 : List Cel) (G : List Addr), Δ0.map Cel.fg = Δ ∧ HkO F (⟨G, v, d, none⟩ :: Δ0) H' ∧ (W = false → ∀ a ∈ G, H a = none) ∧ Nm Γ σ H'
theorem OkN.ok {W : Bool} {F : Fm} {Γ : Gm} {Δ : Δs} {σ : SS} {H H' : Hp} {v : V} {d : Od} (k : OkN W F Γ H v d Δ σ H') : Ok F Γ (⟨v, d, none⟩ :: Δ) σ H' := by
  obtain ⟨Δ0, G, e, k, _, n⟩ := k
  exact ⟨⟨_, by rw [List.map_cons, e]; rfl, k⟩, n⟩
end L3
end
section
set_option maxHeartbeats 4000000
set_option autoImplicit true
namespace L3
open PySem PySem.Spec PyProof.Rows L2
structure St (W : Bool) (H H' : Hp) : Prop where
  fz : Fzs H H'
  kp : W = false → Gr H H'
  dom : ∀ a o, H a = some o → ∃ u, H' a = some u
theorem St.trans {W : Bool} {H H1 H2 : Hp} (a : St W H H1) (b : St W H1 H2) : St W H H2 := ⟨a.fz.trans b.fz, fun n => (a.kp n).trans (b.kp n), fun x o h => by
  obtain ⟨u, e⟩ := a.dom x o h
  exact b.dom x u e⟩
theorem St.back {W : Bool} {H H' : Hp} (s : St W H H') {a : Addr} (h : H' a = none) : H a = none := by
  cases e : H a with
  | none => rfl
  | some o =>
    obtain ⟨u, q⟩ := s.dom a o e
    rw [h] at q; cases q
structure Fn (γ : Type) where
  fin : Hp → γ → Ends → Prop
  mono : ∀ {H H' : Hp} {g : γ} {D : Ends}, fin H g D → Fzs H H' → fin H' g D
section
variable {X : Cx}
variable {W : Bool} {F : Fm} {Γ : Gm} {Δ : Δs} {γ : Type}
section
variable {e a b : Expr} {r : R2} {β1 β2 : Type} {T : Option γ} {k1 : β1 → Option γ} {k2 : β1 → β2 → Option γ} {E1 : β1 → Pd} {E2 : β1 → β2 → Pd} {Δ1 : β1 → Δs} {Δ2 : β1 → β2 → Δs}
end
section
variable {e a b : Expr} {r : R2} {β1 β2 : Type} {T : Option γ} {k1 : β1 → Option γ} {k2 : β1 → β2 → Option γ} {E1 : β1 → Pd} {E2 : β1 → β2 → Pd} {Δ1 : β1 → Δs} {Δ2 : β1 → β2 → Δs}
end
section
variable {a b : Expr} {pos : Pos} {β1 β2 : Type} {T : Option γ} {k1 : β1 → Option γ} {k : β1 × β2 → Option γ} {Δ1 : β1 → Δs} {Δ2 : β1 → β2 → Δs} {i : β1 → Int} {j : β1 → β2 → Int}
end
end
end L3
end
section
set_option maxHeartbeats 4000000
namespace L3
open PySem PySem.Spec PyProof.Rows L2
theorem flat_perm {Δ Δ' : List Cel} (p : Δ.Perm Δ') : (cellsOf Δ).Perm (cellsOf Δ') := by
  unfold cellsOf
  exact p.flatMap_right _
theorem HkO.perm {F : Fm} {Δ Δ' : List Cel} {H : Hp} (k : HkO F Δ H) (p : Δ.Perm Δ') : HkO F Δ' H :=
  ⟨k.base, fun c hc => k.del c (p.mem_iff.mpr hc), (flat_perm p).nodup_iff.mp k.nod, fun c hc => k.own c (p.mem_iff.mpr hc), k.mem⟩
theorem HkO.ndup {F : Fm} {c : Cel} {Δ : List Cel} {H : Hp} (k : HkO F (c :: Δ) H) : c.G.Nodup ∧ (cellsOf Δ).Nodup ∧ ∀ a ∈ c.G, a ∉ cellsOf Δ := by
  have h := k.nod
  rw [cellsOf_cons] at h
  obtain ⟨h1, h2, h3⟩ := List.nodup_append.mp h
  exact ⟨h1, h2, fun a ha hb => h3 a ha a hb rfl⟩
theorem HkO.rest {F : Fm} {c : Cel} {R : List Cel} {H H' : Hp} (k : HkO F (c :: R) H) (kp : ∀ a o, a ∉ c.G → H a = some o → H' a = some o) (dm : ∀ a ∈ c.G, ∃ o, H' a = some o) : HkO F R H' ∧ Fzs H H' ∧ ∀ a o, H a = some o → ∃ u, H' a = some u := by
  have fz : Fzs H H' := fun a o p e => kp a o (fun ha => by
    obtain ⟨u, eu, nu⟩ := c.d.cellsN (k.del c List.mem_cons_self) a ha
    rw [e] at eu
    cases eu
    exact nu p) e
  have dom : ∀ a o, H a = some o → ∃ u, H' a = some u := fun a o e => by
    by_cases ha : a ∈ c.G
    · exact dm a ha
    · exact ⟨o, kp a o ha e⟩
  refine ⟨⟨fun a o e m => ?_, fun x hx => ?_, k.ndup.2.1, fun x hx => k.own x (List.mem_cons_of_mem _ hx), fun m hm a ha => ?_⟩, fz, dom⟩
  · refine kp a o (fun ha => ?_) (k.base a o e m)
    rcases k.own c List.mem_cons_self a ha with z | ⟨i, w, _, hw, z⟩
    · rw [e] at z; cases z
    · exact m w (List.mem_of_getElem? hw) z
  · exact x.d.frame (k.del x (List.mem_cons_of_mem _ hx)) (fun a ha o q => kp a o (fun hc => k.ndup.2.2 a hc (mem_cellsOf hx ha)) q) fz
  · obtain ⟨o, e⟩ := k.mem m hm a ha
    exact dom a o e
theorem HkO.turn {F : Fm} {c : Cel} {R : List Cel} {H H' : Hp} {G' : List Addr} {d' : Od} (k : HkO F (c :: R) H) (kp : ∀ a o, a ∉ c.G → H a = some o → H' a = some o) (dm : ∀ a ∈ c.G, ∃ o, H' a = some o) (nd : G'.Nodup) (sb : ∀ a ∈ G', a ∈ c.G ∨ H a = none) (new : d'.pr G' H' c.v) :
    HkO F (⟨G', c.v, d', c.prm⟩ :: R) H' ∧ Fzs H H' ∧ ∀ a o, H a = some o → ∃ u, H' a = some u := by
  obtain ⟨r, fz, dom⟩ := k.rest kp dm
  refine ⟨r.cons (c := ⟨G', c.v, d', c.prm⟩) nd (fun a ha hb => ?_) new (fun a ha => ?_), fz, dom⟩
  · rcases sb a ha with h | h
    · exact k.ndup.2.2 a h hb
    · obtain ⟨o, e, _⟩ := k.isC (a := a) (by rw [cellsOf_cons]; exact List.mem_append_right _ hb)
      rw [h] at e; cases e
  · rcases sb a ha with h | h
    · exact k.own c List.mem_cons_self a h
    · exact .inl (k.fresh0 h)
theorem map_at {Δ0 : List Cel} {j : Nat} {c : Cell} (h : (Δ0.map Cel.fg)[j]? = some c) : ∃ A x B, Δ0 = A ++ x :: B ∧ A.length = j ∧ x.fg = c := by
  rw [List.getElem?_map] at h
  cases e : Δ0[j]? with
  | none => rw [e] at h; cases h
  | some x =>
    rw [e] at h
    have hl : j < Δ0.length := by
      by_cases hl : j < Δ0.length
      · exact hl
      · rw [List.getElem?_eq_none (by omega)] at e; cases e
    refine ⟨Δ0.take j, x, Δ0.drop (j + 1), ?_, by rw [List.length_take]; omega, by simpa using h⟩
    rw [List.getElem?_eq_getElem hl] at e
    cases e
    rw [← List.drop_eq_getElem_cons hl, List.take_append_drop]
theorem mid_perm {A B : List Cel} {x : Cel} : (A ++ x :: B).Perm (x :: (A ++ B)) := List.perm_middle
theorem map_set {A B : List Cel} {x y : Cel} : (A ++ y :: B).map Cel.fg = ((A ++ x :: B).map Cel.fg).set A.length y.fg := by
  simp
theorem map_erase {A B : List Cel} {x : Cel} : (A ++ B).map Cel.fg = ((A ++ x :: B).map Cel.fg).eraseIdx A.length := by
  rw [List.map_append, List.map_append, List.map_cons, List.eraseIdx_append_of_length_le (by rw [List.length_map]; exact Nat.le_refl _), List.length_map, Nat.sub_self]
  rfl
section
variable {F : Fm} {Γ : Gm} {Δ : Δs} {σ : SS} {H : Hp} {j : Nat} {c : Cell}
theorem Ok.cellG (k : Ok F Γ Δ σ H) (hj : Δ[j]? = some c) : ∃ G, c.d.pr G H c.v ∧ G.Nodup ∧ ∀ H' d' G', (∀ a o, a ∉ G → H a = some o → H' a = some o) → (∀ a ∈ G, ∃ o, H' a = some o) → G'.Nodup → (∀ a ∈ G', a ∈ G ∨ H a = none) → d'.pr G' H' c.v →
    Ok F Γ (Δ.set j { c with d := d' }) σ H' ∧ St true H H' := by
  obtain ⟨⟨Δ0, e, k⟩, n⟩ := k
  subst e
  obtain ⟨A, x, B, e0, el, ex⟩ := map_at hj
  subst e0
  subst ex
  have k1 := k.perm mid_perm
  refine ⟨x.G, k1.del x List.mem_cons_self, k1.ndup.1, fun H' d' G' kp dm nd sb new => ?_⟩
  obtain ⟨k2, fz, dom⟩ := k1.turn kp dm nd sb new
  refine ⟨⟨⟨A ++ ⟨G', x.v, d', x.prm⟩ :: B, ?_, k2.perm mid_perm.symm⟩, n.mono fz⟩, fz, (fun h => nomatch h), dom⟩
  rw [← el]
  exact map_set
theorem Ok.cell (k : Ok F Γ Δ σ H) (hj : Δ[j]? = some c) : ∃ G, c.d.pr G H c.v ∧ G.Nodup ∧ ∀ H' d', (∀ a o, a ∉ G → H a = some o → H' a = some o) → d'.pr G H' c.v → Ok F Γ (Δ.set j { c with d := d' }) σ H' ∧ St true H H' := by
  obtain ⟨G, p, nd, t⟩ := k.cellG hj
  exact ⟨G, p, nd, fun H' d' kp new => t H' d' G kp (fun a ha => by
    obtain ⟨o, e, _⟩ := d'.cellsN new a ha
    exact ⟨o, e⟩) nd (fun a ha => .inl ha) new⟩
theorem Ok.at (k : Ok F Γ Δ σ H) (hj : Δ[j]? = some c) : ∃ G, c.d.pr G H c.v := by
  obtain ⟨G, p, _⟩ := k.cell hj
  exact ⟨G, p⟩
theorem Hk.at (k : Hk F Δ H) (hj : Δ[j]? = some c) : ∃ G, c.d.pr G H c.v := by
  obtain ⟨Δ0, e, k⟩ := k
  subst e
  obtain ⟨A, x, B, e0, el, ex⟩ := map_at hj
  subst e0
  subst ex
  exact ⟨x.G, k.del x (by simp)⟩
end
def tLkX (Φ : Hp → Prop) (H : Hp) : Prop := ∃ G, tLk G Φ H
theorem HkO.frz {F : Fm} {c : Cel} {R : List Cel} {H : Hp} (k : HkO F (c :: R) H) {Φ : Hp → Prop} (q : ∀ H', Fzs H H' → (∀ a, a ∉ c.G → H' a = H a) → (∀ a o, H a = some o → ∃ u, H' a = some u) → HkO F R H' → c.d.pd.pr H' c.v → Φ H') : tLk c.G Φ H := by
  refine c.d.lock (k.del c List.mem_cons_self) k.ndup.1 fun H' kp dom p => ?_
  obtain ⟨r, fz, _⟩ := k.rest (H' := H') (fun a o na e => by rw [kp a na]; exact e) (fun a ha => by
    obtain ⟨o, e, _⟩ := c.d.cellsN (k.del c List.mem_cons_self) a ha
    exact dom a o e)
  exact q H' fz kp dom r p
theorem Ok.frz {F : Fm} {Γ : Gm} {Δ : Δs} {σ : SS} {H : Hp} {j : Nat} {c : Cell} (k : Ok F Γ Δ σ H) (hj : Δ[j]? = some c) {Φ : Hp → Prop} (q : ∀ H', St true H H' → Ok F Γ (Δ.eraseIdx j) σ H' → c.d.pd.pr H' c.v → Φ H') : tLkX Φ H := by
  obtain ⟨⟨Δ0, e, k⟩, n⟩ := k
  subst e
  obtain ⟨A, x, B, e0, el, ex⟩ := map_at hj
  subst e0
  subst ex
  refine ⟨x.G, (k.perm mid_perm).frz fun H' f kp dom h p => q H' ⟨f, (fun h => nomatch h), dom⟩ ⟨⟨A ++ B, ?_, h⟩, n.mono f⟩ p⟩
  rw [← el]
  exact map_erase
theorem OkN.frz {F : Fm} {Γ : Gm} {Δ : Δs} {σ : SS} {H0 H : Hp} {v : V} {d : Od} {W : Bool} (k : OkN W F Γ H0 v d Δ σ H) (s0 : St W H0 H) {Φ : Hp → Prop} (q : ∀ H', St W H0 H' → Ok F Γ Δ σ H' → d.pd.pr H' v → Φ H') : tLkX Φ H := by
  obtain ⟨Δ0, G, e, k, nw, n⟩ := k
  refine ⟨G, k.frz fun H' f kp dom h p => q H' ⟨s0.fz.trans f, fun hW a o ea => ?_, fun a o ea => ?_⟩ ⟨⟨Δ0, e, h⟩, n.mono f⟩ p⟩
  · rw [kp a fun ha => ?_]
    · exact s0.kp hW a o ea
    · rw [nw hW a ha] at ea; cases ea
  · obtain ⟨u, eu⟩ := s0.dom a o ea
    exact dom a u eu
theorem Ok.set {F : Fm} {Γ : Gm} {Δ : Δs} {σ : SS} {H : Hp} {i : Nat} {p : Pd} {v : V} (k : Ok F Γ Δ σ H) (hp : p.pr H v) : Ok F (Γ.set i (some p)) Δ (σ.set i (some v)) H :=
  ⟨k.hk, by rw [List.length_set, List.length_set]; exact k.len, fun j q e => by
    by_cases h : j = i
    · subst h
      by_cases hl : j < Γ.length
      · rw [List.getElem?_set_self hl] at e
        cases e
        exact ⟨v, List.getElem?_set_self (by rw [k.len]; exact hl), hp⟩
      · rw [List.getElem?_eq_none (by rw [List.length_set]; omega)] at e
        cases e
    · rw [List.getElem?_set_ne (fun z => h z.symm)] at e
      obtain ⟨w, hs, hq⟩ := k.gam j q e
      exact ⟨w, by rw [List.getElem?_set_ne (fun z => h z.symm)]; exact hs, hq⟩⟩
def SubG : Gm → Gm → Prop
  | [], [] => True
  | none :: g', _ :: g => SubG g' g
  | some p :: g', some q :: g => p = q ∧ SubG g' g
  | _, _ => False
theorem SubG.len : ∀ {g' g : Gm}, SubG g' g → g'.length = g.length
  | [], [], _ => rfl
  | none :: g', _ :: g, h => congrArg (· + 1) (SubG.len (g' := g') (g := g) h)
  | some p :: g', some q :: g, h => congrArg (· + 1) (SubG.len (g' := g') (g := g) h.2)
  | [], _ :: _, h => h.elim
  | some _ :: _, [], h => h.elim
  | none :: _, [], h => h.elim
  | some _ :: _, none :: _, h => h.elim
end L3
end
section
set_option maxHeartbeats 4000000
namespace L3
open PySem PySem.Spec PyProof.Rows L2
section
variable {X : Cx} {W : Bool} {F : Fm} {Γ : Gm} {Δ : Δs} {γ : Type}
section
variable {e a : Expr} {r : V → Hp → VK → Prop} {β : Type} {T : Option γ} {E1 : β → Pd} {Δ1 : β → Δs}
end
variable {γ : Type} {N : Fn γ} {rest : List Stmt}
end
end L3
end
section
set_option maxHeartbeats 4000000
set_option autoImplicit true
namespace L3
open PySem PySem.Spec PyProof.Rows L2
section
variable {X : Cx} {W : Bool} {F : Fm} {Γ : Gm} {Δ : Δs} {γ : Type}
section
variable {a b : Expr} {rest : List Expr} {pos : Pos} {c1 c2 : Bool} {T : Option γ}
end
section
variable {a b : Expr} {rest : List Expr} {pos : Pos} {β1 β2 S : Type} {T : Option γ} {c1 : β1 → Bool} {c2 : β1 → β2 → Bool} {Δ1 : β1 → Δs} {Δ2 : β1 → β2 → Δs} {T2 : β1 → Option (Bool × S)} {s1 : β1 → S} {s2 : β1 → β2 → S} {ΔS : β1 → S → Δs} {k : β1 × (Bool × S) → Option γ}
end
abbrev Cxt := Gm × Δs
def nxOk (F : Fm) (c : Cxt) (H : Hp) (n : SS → Hp → Prop) : Prop := ∀ σ' H', Fzs H H' → Ok F c.1 c.2 σ' H' → n σ' H'
theorem nxOk.mono {F : Fm} {c : Cxt} {H H' : Hp} {n : SS → Hp → Prop} (h : nxOk F c H n) (f : Fzs H H') : nxOk F c H' n := fun σ1 H1 f1 => h σ1 H1 (f.trans f1)
variable {N : Fn γ} {rest : List Stmt}
section
variable {ce : Expr} {A B : List Stmt} {pos : Pos} {β : Type} {T : Option γ} {c : β → Bool} {Δ' : β → Δs}
end
end
end L3
end
section
set_option maxHeartbeats 4000000
namespace L3
open PySem PySem.Spec PyProof.Rows L2
section
variable {X : Cx} {W : Bool} {F : Fm} {Γ : Gm} {Δ : Δs} {γ : Type}
def RL {α : Type} (E : α → Pd) (xs : List α) (H : Hp) (v : V) : Prop := ∃ a vs, v = .ref a ∧ Rd H a (.lst vs) ∧ xs.length ≤ sizeLine ∧ Paired (fun x u => (E x).pr H u) xs vs
theorem RL.sq {α : Type} {E : α → Pd} {xs : List α} {H : Hp} {v : V} {K : PySem.W.Frag} (h : RL E xs H v) : ∃ a vs, v = .ref a ∧ SqL K H a vs ∧ xs.length ≤ sizeLine ∧ Paired (fun x u => (E x).pr H u) xs vs := by
  obtain ⟨a, vs, e, r, z, p⟩ := h
  exact ⟨a, vs, e, .inl r, z, p⟩
section
variable {a b : Expr} {pos : Pos} {β1 β2 α : Type} {T : Option γ} {k1 : β1 → Option γ} {Δ1 : β1 → Δs} {Δ2 : β1 → β2 → Δs} {E1 : β1 → Pd} {Ee : α → Pd} {xs : β1 → β2 → List α} {j : β1 → β2 → Int}
end
section
variable {a : Expr} {pos p : Pos} {β α : Type} {T : Option γ} {Δ1 : β → Δs} {E1 : β → Pd} {Ee : α → Pd} {xs : β → List α} {k : β → Option γ}
end
section
variable {N : Fn γ} {rest : List Stmt}
end
end
end L3
end
section
set_option maxHeartbeats 4000000
namespace L3
open PySem PySem.Spec PyProof.Rows L2
section
variable {F : Fm} {Γ : Gm} {Δ : Δs} {σ : SS} {H H' : Hp} {W : Bool}
end
end L3
end
section
set_option maxHeartbeats 4000000
namespace L3
open PySem PySem.Spec PyProof.Rows L2
section
variable {X : Cx} {W : Bool} {F : Fm} {Γ : Gm} {Δ : Δs} {γ : Type}
variable {N : Fn γ} {rest : List Stmt}
end
end L3
end
section
set_option maxHeartbeats 4000000
namespace L3
open PySem PySem.Spec PyProof.Rows L2
theorem Hk.cell {F : Fm} {Δ : Δs} {H : Hp} {j : Nat} {c : Cell} (k : Hk F Δ H) (hj : Δ[j]? = some c) : ∃ G, c.d.pr G H c.v ∧ G.Nodup ∧ ∀ H' d', (∀ a o, a ∉ G → H a = some o → H' a = some o) → d'.pr G H' c.v → Hk F (Δ.set j { c with d := d' }) H' ∧ St true H H' := by
  have k2 : Ok F [] Δ [] H := ⟨k, rfl, fun i p e => by cases e⟩
  obtain ⟨G, p, nd, t⟩ := k2.cell hj
  exact ⟨G, p, nd, fun H' d' kp new => ⟨(t H' d' kp new).1.hk, (t H' d' kp new).2⟩⟩
section
variable {X : Cx} {W : Bool} {F : Fm} {Γ : Gm} {Δ : Δs} {γ : Type}
section
variable {α β β2 β3 δ S : Type} {g : TG} {own : List (Str × Nat)} {T : Option γ} {k0 : β → Option γ} {k : β × (List δ × S) → Option γ} {out : β × (List δ × S) → List δ} {Ex : α → Pd} {Ee : δ → Pd} {bd : Gm → α → Gm} {xs : β → List α} {Δ1 : β → Δs} {C : β → S → Δs} {s0 : β → S} {f : β → α → S → Option (Option δ × S)}
    {c : β → α → S → β2 → Bool} {s2 : β → α → S → β2 → S} {T2 : β → α → S → β2 → Option (Option δ × S)} {y : β → α → S → β2 → β3 → δ} {s3 : β → α → S → β2 → β3 → S}
end
end
end L3
end
section
set_option maxHeartbeats 4000000
namespace L3
open PySem PySem.Spec PyProof.Rows L2
section
variable {X : Cx} {W : Bool} {F : Fm} {Γ : Gm} {Δ : Δs} {γ : Type}
section
variable {a b : Expr} {pos : Pos} {β1 β2 α : Type} [DecidableEq α] {T : Option γ} {k1 : β1 → Option γ} {k : β1 × β2 → Option γ} {Δ1 : β1 → Δs} {Δ2 : β1 → β2 → Δs} {Ee : α → Pd} {i : β1 → α} {E2 : β1 → β2 → Pd} {xs : β1 → β2 → List α}
end
section
variable {a b : Expr} {pos : Pos} {β1 β2 : Type} {T : Option γ} {k1 : β1 → Option γ} {k : β1 × β2 → Option γ} {Δ1 : β1 → Δs} {Δ2 : β1 → β2 → Δs} {i : β1 → Str} {j : β1 → β2 → Str} {c : β1 → Bool} {d : β1 → β2 → Bool}
end
structure Dt {α : Type} [DecidableEq α] (E : α → Pd) where
  toD : α → PyData
  dp : ∀ {K H v x}, (E x).pr H v → Dp K H v (toD x)
  dep : Nat
  can : ∀ x, (toD x).canLay0 = true
  deep : ∀ x, (toD x).depth ≤ dep
  eq : ∀ x y, PyData.eqv (toD x) (toD y) = decide (x = y)
theorem dp_all {α : Type} {E : α → Pd} [DecidableEq α] (d : Dt E) {K : PySem.W.Frag} {H : Hp} : ∀ {xs : List α} {vs : List V}, Paired (fun x u => (E x).pr H u) xs vs → DpAll K H vs (xs.map d.toD)
  | _, _, .nil => .nil
  | _, _, .cons r t => .cons (d.dp r) (dp_all d t)
section
variable {a b : Expr} {pos : Pos} {β1 β2 α : Type} [DecidableEq α] {T : Option γ} {k1 : β1 → Option γ} {k : β1 × β2 → Option γ} {Δ1 : β1 → Δs} {Δ2 : β1 → β2 → Δs} {Ee : α → Pd} {E1 : β1 → Pd} {E2 : β1 → β2 → Pd} {xs ys : β1 → β2 → List α}
theorem RL.dp {α : Type} {E : α → Pd} [DecidableEq α] (d : Dt E) {xs : List α} {H : Hp} {v : V} {K : PySem.W.Frag} (h : RL E xs H v) : Dp K H v (.list (xs.map d.toD)) := by
  obtain ⟨a, vs, e, sq, z, p⟩ := h.sq (K := K)
  rw [e]
  exact .lst sq (dp_all d p)
end
end
end L3
end
section
set_option maxHeartbeats 4000000
namespace L3
open PySem PySem.Spec PyProof.Rows L2
section
variable {X : Cx} {W : Bool} {F : Fm} {Γ : Gm} {Δ : Δs} {γ : Type}
section
variable {a : Expr} {lo hi : Option Expr} {p2 pos : Pos} {β1 β2 β3 α : Type} {T : Option γ} {k1 : β1 → Option γ} {k2 : β1 → β2 → Option γ} {k : β1 × β2 × β3 → Option γ} {E1 : β1 → Pd} {Ee : α → Pd} {xs : β1 → β2 → β3 → List α} {o1 : β1 → β2 → Option Int} {o2 : β1 → β2 → β3 → Option Int} {Δ1 : β1 → Δs} {Δ2 : β1 → β2 → Δs} {Δ3 : β1 → β2 → β3 → Δs}
end
section
variable {a : Expr} {β α : Type} {T : Option γ} {k : β → Option γ} {E1 : β → Pd} {Ee : α → Pd} {xs : β → List α} {Δ1 : β → Δs}
variable {p pos : Pos}
end
section
variable {a : Expr} {i : Int} {n : Nat} {p pos : Pos} {β α1 α2 α3 : Type} {T : Option γ} {k : β → Option γ} {A : α1 → Pd} {B : α2 → Pd} {C : α3 → Pd} {Δ1 : β → Δs}
end
section
variable {a b : Expr} {pos : Pos} {β1 β2 α : Type} {T : Option γ} {k1 : β1 → Option γ} {k : β1 × β2 → Option γ} {Δ1 : β1 → Δs} {Δ2 : β1 → β2 → Δs} {Ee : α → Pd} {E1 : β1 → Pd} {E2 : β1 → β2 → Pd} {xs ys : β1 → β2 → List α}
end
section
variable {o e : Expr} {apos cpos : Pos} {β1 β2 α : Type} {T : Option γ} {k1 : β1 → Option γ} {k : β1 × β2 → Option γ} {Δ1 : β1 → Δs} {Δ2 : β1 → β2 → Δs} {Ee : α → Pd} {xs : β1 → β2 → List α} {y : β1 → β2 → α} {v : V} {prm : Option Nat}
end
section
variable {a : Expr} {pos p : Pos} {j : Nat} {β α : Type} {T : Option γ} {k : β → Option γ} {Ee : α → Pd} {x : β → Option α} {Δ1 : β → Δs}
end
end
end L3
end
section
set_option maxHeartbeats 8000000
namespace L3
open PySem PySem.Spec PyProof.Rows L2
section
variable {P : Program} {w : World} {A : Around} {E : Value → Shared → Prop} {s : Shared}
end
section
variable {X : Cx}
variable {W : Bool} {F : Fm} {Γ : Gm} {Δ : Δs} {γ : Type}
section
variable {a : Expr} {p pos : Pos} {β : Type} {T : Option γ} {E1 : β → Pd} {xs : β → List Int} {Δ1 : β → Δs}
end
end
end L3
end
section
set_option maxHeartbeats 8000000
namespace L3
open PySem PySem.Spec PyProof.Rows L2
section
variable {P : Program} {w : World} {A : Around} {E : Value → Shared → Prop} {s : Shared}
end
section
variable {X : Cx} {W : Bool} {F : Fm} {Γ : Gm} {Δ : Δs} {γ : Type}
section
variable {a : Expr} {p pos : Pos} {β : Type} {T : Option γ} {xs : β → List Int} {Δ1 : β → Δs} {k : β → Option γ}
end
end
end L3
end
section
set_option maxHeartbeats 4000000
namespace L3
open PySem PySem.Spec PyProof.Rows L2
section
variable {X : Cx} {W : Bool} {F : Fm} {Γ : Gm} {Δ : Δs} {γ : Type}
end
end L3
end
section
set_option maxHeartbeats 4000000
namespace L3
open PySem PySem.Spec PyProof.Rows L2
section
variable {X : Cx} {W : Bool} {F : Fm} {Γ : Gm} {Δ : Δs} {γ : Type}
inductive Own3 {α : Type} (D : α → Od) (H : Hp) : List α → List V → List (List Addr) → Prop
  | nil : Own3 D H [] [] []
  | cons {x : α} {xs : List α} {v : V} {vs : List V} {g : List Addr} {gs : List (List Addr)} : (D x).pr g H v → Own3 D H xs vs gs → Own3 D H (x :: xs) (v :: vs) (g :: gs)
theorem Own3.len {α : Type} {D : α → Od} {H : Hp} : ∀ {xs : List α} {vs : List V} {gs : List (List Addr)}, Own3 D H xs vs gs → xs.length = vs.length
  | _, _, _, .nil => rfl
  | _, _, _, .cons _ t => congrArg (· + 1) t.len
theorem Own3.at {α : Type} {D : α → Od} {H : Hp} : ∀ {xs : List α} {vs : List V} {gs : List (List Addr)} {m : Nat} {x : α}, Own3 D H xs vs gs → xs[m]? = some x → ∃ v g, vs[m]? = some v ∧ gs[m]? = some g ∧ (D x).pr g H v
  | _, _, _, _, _, .nil, e => by simp at e
  | _, _, _, 0, _, .cons r _, e => by simp at e; subst e; exact ⟨_, _, rfl, rfl, r⟩
  | _, _, _, m + 1, x, .cons _ t, e => by
    obtain ⟨v, g, h1, h2, h3⟩ := Own3.at (m := m) (x := x) t (by simpa using e)
    exact ⟨v, g, by simpa using h1, by simpa using h2, h3⟩
end
end L3
end
section
set_option maxHeartbeats 4000000
namespace L3
open PySem PySem.Spec PyProof.Rows L2
section
variable {X : Cx} {W : Bool} {F : Fm} {Γ : Gm} {Δ : Δs} {γ : Type} {N : Fn γ} {rest : List Stmt}
end
end L3
end
section
set_option maxHeartbeats 4000000
namespace L3
open PySem PySem.Spec PyProof.Rows L2
section
variable {X : Cx} {W : Bool} {F : Fm} {Γ : Gm} {Δ : Δs} {γ : Type}
section
variable {a : Expr} {pos : Pos} {β : Type} {T : Option γ} {k : β → Option γ} {Δ1 : β → Δs} {i : β → Int}
end
section
variable {a b : Expr} {pos : Pos} {β1 β2 : Type} {T : Option γ} {k1 : β1 → Option γ} {k : β1 × β2 → Option γ} {Δ1 : β1 → Δs} {Δ2 : β1 → β2 → Δs} {i : β1 → Str} {j : β1 → β2 → Str}
end
section
variable {a b : Expr} {pos : Pos} {β1 β2 : Type} {T : Option γ} {k1 : β1 → Option γ} {k : β1 × β2 → Option γ} {Δ1 : β1 → Δs} {Δ2 : β1 → β2 → Δs} {i : β1 → Option Int} {j : β1 → β2 → Option Int} {c : β1 → Option Str} {d : β1 → β2 → Option Str}
end
section
variable {T : Option γ}
end
end
end L3
end
section
set_option maxHeartbeats 4000000
namespace L3
open PySem PySem.Spec PyProof.Rows L2
section
variable {X : Cx} {W : Bool} {F : Fm} {Γ : Gm} {Δ : Δs} {γ : Type}
end
end L3
end
section
set_option maxHeartbeats 4000000
namespace L3
open PySem PySem.Spec PyProof.Rows L2
section
variable {X : Cx} {W : Bool} {F : Fm} {Γ : Gm} {Δ : Δs} {γ : Type}
section
variable {a b : Expr} {pos : Pos} {β1 β2 : Type} {T : Option γ} {k1 : β1 → Option γ} {Δ1 : β1 → Δs} {Δ2 : β1 → β2 → Δs} {xs : β1 → List Int} {j : β1 → β2 → Int}
end
section
variable {a : Expr} {pos p : Pos} {β : Type} {T : Option γ} {Δ1 : β → Δs} {xs : β → List Int} {k : β → Option γ}
end
end
end L3
end
section
set_option maxHeartbeats 4000000
namespace L3
open PySem PySem.Spec PyProof.Rows L2
class Ky (κ : Type) where
  ky : κ → Key
  kp : κ → Pd
  inj : ∀ {x y : κ}, ky x = ky y → x = y
  is : ∀ {x : κ} {H : Hp} {v : V}, (kp x).pr H v → v = kV (ky x)
  of : ∀ (x : κ) (H : Hp), (kp x).pr H (kV (ky x))
@[reducible] instance kyS : Ky Str := { ky := .inr, kp := pStr, inj := fun h => Sum.inr.inj h, is := fun h => h, of := fun _ _ => rfl }
@[reducible] instance kyI : Ky Int := { ky := .inl, kp := pInt, inj := fun h => Sum.inl.inj h, is := fun h => h, of := fun _ _ => rfl }
section
variable {κ α : Type} [DecidableEq κ]
end
section
variable {κ α : Type} [DecidableEq κ] [Ky κ]
abbrev PrM (E : α → Pd) (H : Hp) (x : κ × α) (u : Key × V) : Prop := u.1 = Ky.ky x.1 ∧ (E x.2).pr H u.2
theorem prM_mono {E : α → Pd} {H H' : Hp} (f : Fzs H H') {xs : List (κ × α)} {us : List (Key × V)} (p : Paired (PrM E H) xs us) : Paired (PrM E H') xs us := paired_mono (fun x _ q => ⟨q.1, (E x.2).mono f q.2⟩) p
def pM (E : α → Pd) (xs : List (κ × α)) : Pd where
  pr H v := ∃ a o kvs, v = .ref a ∧ H a = some (.frz o (.dK kvs)) ∧ xs.length ≤ sizeLine ∧ Paired (PrM E H) xs kvs
  mono := fun f ⟨a, o, vs, e, h, z, p⟩ => ⟨a, o, vs, e, f _ _ trivial h, z, prM_mono f p⟩
end
section
variable {X : Cx} {W : Bool} {F : Fm} {Γ : Gm} {Δ : Δs} {γ : Type} {κ α : Type} [DecidableEq κ] [Ky κ]
section
variable {a b : Expr} {pos : Pos} {β1 β2 : Type} {T : Option γ} {k1 : β1 → Option γ} {Δ1 : β1 → Δs} {Δ2 : β1 → β2 → Δs} {E1 : β1 → Pd} {Ee : α → Pd} {xs : β1 → β2 → List (κ × α)} {j : β1 → β2 → κ}
end
section
variable {a b : Expr} {pos : Pos} {β1 β2 : Type} {T : Option γ} {k1 : β1 → Option γ} {k : β1 × β2 → Option γ} {Δ1 : β1 → Δs} {Δ2 : β1 → β2 → Δs} {E2 : β1 → β2 → Pd} {Ee : α → Pd} {xs : β1 → β2 → List (κ × α)} {i : β1 → κ}
end
end
end L3
end
section
set_option maxHeartbeats 4000000
namespace L3
open PySem PySem.Spec PyProof.Rows L2
section
variable {X : Cx} {W : Bool} {F : Fm} {Γ : Gm} {Δ : Δs} {γ : Type} {κ α : Type} [DecidableEq κ] [Ky κ]
section
variable {e a : Expr} {r : V → Hp → VK → Prop} {β : Type} {T : Option γ} {E1 : β → Pd} {Δ1 : β → Δs}
end
section
variable {a : Expr} {pos p : Pos} {β : Type} {T : Option γ} {Δ1 : β → Δs} {E1 : β → Pd} {Ee : α → Pd} {xs : β → List (κ × α)} {k : β → Option γ}
end
section
variable {N : Fn γ} {rest : List Stmt}
end
end
end L3
end
section
set_option maxHeartbeats 4000000
namespace L3
open PySem PySem.Spec PyProof.Rows L2
section
variable {κ α : Type} [DecidableEq κ] [DecidableEq α]
end
section
variable {X : Cx} {W : Bool} {F : Fm} {Γ : Gm} {Δ : Δs} {γ : Type} {κ α : Type} [DecidableEq κ] [Ky κ] [DecidableEq α]
section
variable {a b : Expr} {pos : Pos} {β1 β2 : Type} {T : Option γ} {k1 : β1 → Option γ} {k : β1 × β2 → Option γ} {Δ1 : β1 → Δs} {Δ2 : β1 → β2 → Δs} {Ee : α → Pd} {E1 : β1 → Pd} {E2 : β1 → β2 → Pd} {xs ys : β1 → β2 → List (κ × α)}
end
end
section
variable {X : Cx} {W : Bool} {F : Fm} {Γ : Gm} {Δ : Δs} {γ : Type}
section
variable {a b : Expr} {p pos : Pos} {β1 β2 : Type} {T : Option γ} {k1 : β1 → Option γ} {k : β1 × β2 → Option γ} {Δ1 : β1 → Δs} {Δ2 : β1 → β2 → Δs} {i : β1 → Int} {j : β1 → β2 → Int}
end
section
variable {a b : Expr} {p pos : Pos} {β β1 β2 : Type} {T : Option γ} {k1 : β1 → Option γ} {Δ1 : β1 → Δs} {Δ0 : β → Δs} {Δ2 : β1 → β2 → Δs}
end
section
variable {o e : Expr} {apos cpos : Pos} {β1 β2 α : Type} {T : Option γ} {k1 : β1 → Option γ} {Δ1 : β1 → Δs} {Δ2 : β1 → β2 → Δs} {E1 : β1 → Pd} {Ee : α → Pd} {y : β1 → β2 → α}
end
end
end L3
end
section
set_option maxHeartbeats 4000000
namespace L3
open PySem PySem.Spec PyProof.Rows L2
section
variable {X : Cx} {W : Bool} {F : Fm} {Γ : Gm} {Δ : Δs} {γ : Type}
end
end L3
end
section
set_option maxHeartbeats 4000000
namespace L3
open PySem PySem.Spec PyProof.Rows L2
inductive Val where
  | non
  | bl (b : Bool)
  | int (i : Int)
  | str (x : Str)
  | lst (xs : List Val)
  | tup (xs : List Val)
  | dct (kvs : List (Key × Val))
  | ins (c : Str) (fs : List (Str × Val))
abbrev Mg := Str → Option Value
mutual
inductive VRep (mg : Mg) (H : Hp) : Val → V → Prop
  | non : VRep mg H .non .non
  | bl (b : Bool) : VRep mg H (.bl b) (.bl b)
  | int (i : Int) : VRep mg H (.int i) (.int i)
  | str (x : Str) : VRep mg H (.str x) (.str x)
  | lst {a : Addr} {o : Obj} {vs : List V} {xs : List Val} : H a = some (.frz o (.lst vs)) → xs.length ≤ sizeLine → VReps mg H xs vs → VRep mg H (.lst xs) (.ref a)
  | tup {a : Addr} {vs : List V} {xs : List Val} : H a = some (.tup vs) → xs.length ≤ sizeLine → VReps mg H xs vs → VRep mg H (.tup xs) (.ref a)
  | dct {a : Addr} {o : Obj} {ks : List (Key × V)} {kvs : List (Key × Val)} : H a = some (.frz o (.dK ks)) → kvs.length ≤ sizeLine → VRepD mg H kvs ks → VRep mg H (.dct kvs) (.ref a)
  | ins {a : Addr} {o : Obj} {C dx : Addr} {vs : List (Str × V)} {c : Str} {fs : List (Str × Val)} : H a = some (.frz o (.ins C dx vs)) → mg c = some (.ref C) → VRepF mg H fs vs → VRep mg H (.ins c fs) (.ref a)
inductive VReps (mg : Mg) (H : Hp) : List Val → List V → Prop
  | nil : VReps mg H [] []
  | cons {x : Val} {v : V} {xs : List Val} {vs : List V} : VRep mg H x v → VReps mg H xs vs → VReps mg H (x :: xs) (v :: vs)
inductive VRepD (mg : Mg) (H : Hp) : List (Key × Val) → List (Key × V) → Prop
  | nil : VRepD mg H [] []
  | cons {k : Key} {x : Val} {v : V} {xs : List (Key × Val)} {vs : List (Key × V)} : VRep mg H x v → VRepD mg H xs vs → VRepD mg H ((k, x) :: xs) ((k, v) :: vs)
inductive VRepF (mg : Mg) (H : Hp) : List (Str × Val) → List (Str × V) → Prop
  | nil : VRepF mg H [] []
  | cons {k : Str} {x : Val} {v : V} {xs : List (Str × Val)} {vs : List (Str × V)} : VRep mg H x v → VRepF mg H xs vs → VRepF mg H ((k, x) :: xs) ((k, v) :: vs)
end
mutual
theorem VRep.mono {mg : Mg} {H H' : Hp} (f : Fzs H H') : ∀ {x : Val} {v : V}, VRep mg H x v → VRep mg H' x v
  | _, _, .non => .non
  | _, _, .bl b => .bl b
  | _, _, .int i => .int i
  | _, _, .str x => .str x
  | _, _, .lst h z r => .lst (f _ _ trivial h) z (VReps.mono f r)
  | _, _, .tup h z r => .tup (f _ _ trivial h) z (VReps.mono f r)
  | _, _, .dct h z r => .dct (f _ _ trivial h) z (VRepD.mono f r)
  | _, _, .ins h m r => .ins (f _ _ trivial h) m (VRepF.mono f r)
theorem VReps.mono {mg : Mg} {H H' : Hp} (f : Fzs H H') : ∀ {x : List Val} {v : List V}, VReps mg H x v → VReps mg H' x v
  | _, _, .nil => .nil
  | _, _, .cons a b => .cons (VRep.mono f a) (VReps.mono f b)
theorem VRepD.mono {mg : Mg} {H H' : Hp} (f : Fzs H H') : ∀ {x : List (Key × Val)} {v : List (Key × V)}, VRepD mg H x v → VRepD mg H' x v
  | _, _, .nil => .nil
  | _, _, .cons a b => .cons (VRep.mono f a) (VRepD.mono f b)
theorem VRepF.mono {mg : Mg} {H H' : Hp} (f : Fzs H H') : ∀ {x : List (Str × Val)} {v : List (Str × V)}, VRepF mg H x v → VRepF mg H' x v
  | _, _, .nil => .nil
  | _, _, .cons a b => .cons (VRep.mono f a) (VRepF.mono f b)
end
abbrev Kp (G : List Addr) (H H' : Hp) : Prop := ∀ a ∈ G, ∀ o, H a = some o → H' a = some o
theorem Kp.r {G1 G2 : List Addr} {H H' : Hp} (k : Kp (G1 ++ G2) H H') : Kp G2 H H' := fun a ha => k a (List.mem_append_right _ ha)
theorem Kp.t {a : Addr} {G : List Addr} {H H' : Hp} (k : Kp (a :: G) H H') : Kp G H H' := fun a ha => k a (List.mem_cons_of_mem _ ha)
abbrev Muts (G : List Addr) (H : Hp) : Prop := ∀ a ∈ G, ∃ o, H a = some o ∧ Mut (some o)
theorem Muts.cons {a : Addr} {G : List Addr} {H : Hp} {o : HO} (h : H a = some o) (m : Mut (some o)) (t : Muts G H) : Muts (a :: G) H := fun b hb => by
  rcases List.mem_cons.mp hb with e | hb
  · rw [e]; exact ⟨o, h, m⟩
  · exact t b hb
abbrev Lkd (S : List Addr) (H H1 : Hp) : Prop := ∀ a ∈ S, ∀ u, H a = some u → ∃ o, H1 a = some (.frz o u)
theorem Lkd.r {G1 G2 : List Addr} {H H' : Hp} (k : Lkd (G1 ++ G2) H H') : Lkd G2 H H' := fun a ha => k a (List.mem_append_right _ ha)
theorem Lkd.t {a : Addr} {G : List Addr} {H H' : Hp} (k : Lkd (a :: G) H H') : Lkd G H H' := fun a ha => k a (List.mem_cons_of_mem _ ha)
end L3
end
section
set_option maxHeartbeats 4000000
namespace L3
open PySem PySem.Spec PyProof.Rows L2
structure Dg {α : Type} [DecidableEq α] (E : α → Pd) where
  toD : α → PyData
  dp : ∀ {K H v x}, (E x).pr H v → Dp K H v (toD x)
  dep : Nat
  ok : α → Bool
  can : ∀ x, ok x = true → (toD x).canLay0 = true
  deep : ∀ x, (toD x).depth ≤ dep
  eq : ∀ x y, PyData.eqv (toD x) (toD y) = decide (x = y)
def Dt.g {α : Type} [DecidableEq α] {E : α → Pd} (d : Dt E) : Dg E := ⟨d.toD, d.dp, d.dep, fun _ => true, fun x _ => d.can x, d.deep, d.eq⟩
section
variable {X : Cx} {W : Bool} {F : Fm} {Γ : Gm} {Δ : Δs} {γ : Type} {a b : Expr} {pos : Pos} {β1 β2 α : Type} [DecidableEq α] {T : Option γ} {k1 : β1 → Option γ} {k : β1 × β2 → Option γ} {Δ1 : β1 → Δs} {Δ2 : β1 → β2 → Δs} {Ee : α → Pd} {x : β1 → α} {y : β1 → β2 → α}
end
section
variable {X : Cx} {W : Bool} {F : Fm} {Γ : Gm} {Δ : Δs} {γ : Type}
section
variable {a b : Expr} {pos : Pos} {β1 β2 : Type} {T : Option γ} {k1 : β1 → Option γ} {k : β1 × β2 → Option γ} {Δ1 : β1 → Δs} {Δ2 : β1 → β2 → Δs} {i : β1 → Int} {v0 : V} {xs : β1 → β2 → List Int} {prm : Option Nat}
end
end
end L3
end
section
set_option maxHeartbeats 4000000
namespace L3
open PySem PySem.Spec PyProof.Rows L2
section
variable {X : Cx} {W : Bool} {F : Fm} {Γ : Gm} {Δ : Δs} {γ : Type}
variable {α α2 β β4 β5 δ : Type} {g g2 : TG} {own : List (Str × Nat)} {vs1 : List Nat} {T : Option γ} {k0 : β → Option γ} {k : β × List δ → Option γ} {Ex : α → Pd} {Ex2 : α2 → Pd} {Ee : δ → Pd} {bd : Gm → α → Gm} {bd2 : Gm → α2 → Gm} {xs : β → List α} {C : β → Δs} {f : β → α → Option (List δ)}
    {ys : β → α → β4 → List α2} {h : β → α → β4 → α2 → Option δ} {e : β → α → β4 → α2 → β5 → δ}
end
end L3
end
section
set_option maxHeartbeats 4000000
namespace L3
open PySem PySem.Spec PyProof.Rows L2
section
variable {κ α : Type} [DecidableEq κ]
end
section
variable {κ α : Type} [DecidableEq κ] [Ky κ]
end
section
variable {X : Cx} {W : Bool} {F : Fm} {Γ : Gm} {Δ : Δs} {γ : Type}
end
end L3
end
section
set_option maxHeartbeats 4000000
namespace L3
open PySem PySem.Spec PyProof.Rows L2
section
variable {X : Cx} {W : Bool} {F : Fm} {Γ : Gm} {Δ : Δs} {γ : Type}
section
variable {o i e : Expr} {pos : Pos} {β1 β2 α : Type} {T : Option γ} {k1 : β1 → Option γ} {v : V} {d : Od} {D : α → Od} {prm : Option Nat}
end
section
variable {o e : Expr} {apos cpos : Pos} {β1 β2 α : Type} {T : Option γ} {k1 : β1 → Option γ} {k : β1 × β2 → Option γ} {v : V} {d : Od} {prm : Option Nat} {xs : β1 → List α} {back : β1 → List α → Od} {y : β1 → β2 → α}
end
section
variable {N : Fn γ} {rest : List Stmt} {κ : Type} [DecidableEq κ] [Ky κ]
end
end
end L3
end
section
set_option maxHeartbeats 4000000
namespace L3
open PySem PySem.Spec PyProof.Rows L2
section
variable {X : Cx} {W : Bool} {F : Fm} {Γ : Gm} {Δ : Δs} {γ : Type}
section
variable {κ δ : Type} [DecidableEq κ] [Ky κ]
variable {α β β2 β3 : Type} {g : TG} {own : List (Str × Nat)} {T : Option γ} {k : β × List (κ × δ) → Option γ} {Ex : α → Pd} {D : δ → Od} {bd : Gm → α → Gm} {xs : β → List α} {Δ1 : β → Δs} {f : β → α → Option (κ × δ)} {T2 : β → α → β2 → Option (κ × δ)} {ky : β → α → β2 → κ} {y : β → α → β2 → β3 → δ}
end
end
end L3
end
section
set_option maxHeartbeats 4000000
namespace PySem.SeqAt
open AutoSeq1 (wpAny_loadPart')
open MeetsSeq MeetsSeq2 MeetsSeq3 SeqRoads2
section
variable {prog : Program} {w : World}
end
end PySem.SeqAt
end
section
set_option maxHeartbeats 4000000
namespace L3
open PySem PySem.Spec PyProof.Rows L2
section
variable {κ α : Type} [DecidableEq κ] [Ky κ]
end
section
variable {α : Type}
end
end L3
end
section
set_option maxHeartbeats 4000000
namespace L3
open PySem PySem.Spec PyProof.Rows L2
section
variable {X : Cx} {W : Bool} {F : Fm} {Γ : Gm} {Δ : Δs} {γ : Type}
section
variable {a b : Expr} {pos : Pos} {β1 β2 α : Type} {T : Option γ} {k1 : β1 → Option γ} {k : β1 × β2 → Option γ} {Δ1 : β1 → Δs} {Δ2 : β1 → β2 → Δs} {Ee : α → Pd} {x : β1 → List α} {y : β1 → β2 → List α}
end
end
end L3
end
section
set_option maxHeartbeats 4000000
set_option autoImplicit true
namespace L3
open PySem PySem.Spec PyProof.Rows L2
section
variable {X : Cx} {W : Bool} {F : Fm} {Γ : Gm} {Δ : Δs} {γ : Type}
section
variable {e a b : Expr} {r : R2} {β1 β2 : Type} {T : Option γ} {k1 : β1 → Option γ} {E1 : β1 → Pd} {E2 : β1 → β2 → Pd} {Δ1 : β1 → Δs} {Δ2 : β1 → β2 → Δs}
end
section
variable {a b : Expr} {pos : Pos} {β1 β2 α : Type} {T : Option γ} {k1 : β1 → Option γ} {k : β1 × β2 → Option γ} {Δ1 : β1 → Δs} {Δ2 : β1 → β2 → Δs} {Ee : α → Pd} {x : β1 → List α} {y : β1 → β2 → List α}
end
section
variable {a b : Expr} {pos : Pos} {β1 β2 α : Type} [DecidableEq α] {T : Option γ} {k1 : β1 → Option γ} {k : β1 × β2 → Option γ} {Δ1 : β1 → Δs} {Δ2 : β1 → β2 → Δs} {Ee : α → Pd} {x : β1 → α} {y : β1 → β2 → α}
end
end
end L3
end
section
set_option maxHeartbeats 2000000
namespace PySem
namespace SxX
open PySem.W PySem.Calls PyProof.Rows PySem.HandSPX
section
variable {prog : Program} {w : World} {A : Around} {E : Value → Shared → Prop} {K : Frag} {C x L t1 : Addr} {env : Env} {g : Array GenState} {d : Drawn} {os : OsState} {hb : Heap} {m : Str → Option Value} {cd : ClassData}
end
end SxX
end PySem
end
section
set_option maxHeartbeats 2000000
namespace PySem
namespace SxX
open PySem.W PySem.Calls PyProof.Rows PySem.HandSPX
section
variable {prog : Program} {w : World} {A : Around} {R : Result → Shared → Prop} {K : Frag} {C fI x t0 : Addr} {ps : List Str} {hb : Heap} {g : Array GenState} {d : Drawn} {tk : Nat} {os : OsState} {mg : Str → Option Value}
end
end SxX
end PySem
end
section
set_option maxHeartbeats 2000000
set_option autoImplicit true
namespace L2
open PySem PySem.Spec PyProof.Rows PySem.SxX
section
variable {X : Cx} {C fI : Addr} {ps : List Str} {x : Str} {p pos : Pos} {k : Nat}
end
end L2
end
section
set_option maxHeartbeats 4000000
set_option autoImplicit true
namespace L3
open PySem PySem.Spec PyProof.Rows L2 PySem.SxX
structure Xk (ε : Type) where
  ok : ε → Value → Option Addr → Hp → Prop
  mono : ∀ {e : ε} {cls : Value} {d : Option Addr} {H H' : Hp}, Fzs H H' → ok e cls d H → ok e cls d H'
def xOut {ε : Type} (Kx : Xk ε) (F : Fm) (Δx : Δs) (Nx : SS → Hp → Prop) (Wx : WX) (e : ε) (H : Hp) : Prop := ∀ cls d σ H', Fzs H H' → Hk F Δx H' → Nx σ H' → Kx.ok e cls d H' → Wx cls d σ H'
def Ex {ε γ : Type} (N : Fn γ) (ιx : ε → γ) (Kx : Xk ε) (F : Fm) (Δx : Δs) (Nx : SS → Hp → Prop) (Wx : WX) : Prop := ∀ H e D, N.fin H (ιx e) D → xOut Kx F Δx Nx Wx e H
section
variable {X : Cx} {W : Bool} {F : Fm} {Γ : Gm} {Δ : Δs} {γ ε : Type} {Kx : Xk ε} {N : Fn γ} {ιx : ε → γ} {Δx : Δs} {Nx : SS → Hp → Prop} {Wx : WX} {k : Nat} {C fI : Addr} {ps : List Str} {x : Str} {p pos pos2 : Pos}
section
variable {f : Addr} {fd : FuncData} {kk : Nat} {α ρ β : Type} {A : α → List Pd} {Mf : α → Option (Except ε ρ)} {xs : β → α} {T : Option γ} {e : Expr} {es : List Expr}
end
section
variable {rest : List Stmt} {β : Type} {T : Option γ} {kc : β → Option γ} {Δ' : β → Δs} {e : Expr}
end
end
end L3
end
section
set_option maxHeartbeats 4000000
set_option autoImplicit true
namespace L3
open PySem PySem.Spec PyProof.Rows L2 PySem.SxX
section
variable {X : Cx} {W : Bool} {F : Fm} {Γ : Gm} {Δ : Δs} {γ ε : Type} {Kx : Xk ε}
end
inductive FV where
  | str (x : Str)
  | int (i : Int)
  | tupI (xs : List Int)
  | lstS (xs : List Str)
  | dctI (xs : List (Str × Int))
def FV.p : FV → Pd
  | .str x => pStr x
  | .int i => pInt i
  | .tupI xs => pTL pInt xs
  | .lstS xs => pL pStr xs
  | .dctI xs => pM pInt xs
structure Er where
  cn : Str
  fs : List FV
def subC (x y : Str) : Bool := x == y || y == "DeskError" || y == "ValueError"
section
variable {X : Cx} {W : Bool} {F : Fm} {Γ : Gm} {Δ : Δs} {γ : Type} {P : Program} {rs cs : List Str}
variable {a : Addr} {oe : Obj} {cls : Value} {d : Option Addr} {pn : List (Addr × Obj)} {e : Er} {mg : Str → Option Value}
end
end L3
end
section
set_option maxHeartbeats 4000000
set_option autoImplicit true
namespace L3
open PySem PySem.Spec PyProof.Rows L2 PySem.SxX
section
variable {X : Cx} {W : Bool} {F : Fm} {Γ : Gm} {Δ : Δs} {γ : Type} {N : Fn γ} {rest : List Stmt}
end
section
variable {X : Cx} {W : Bool} {F : Fm} {Γ : Gm} {Δ : Δs} {γ : Type}
section
variable {a b : Expr} {pos : Pos} {β1 β2 : Type} {T : Option γ} {k1 : β1 → Option γ} {k : β1 × β2 → Option γ} {Δ1 : β1 → Δs} {Δ2 : β1 → β2 → Δs}
end
end
end L3
end
section
set_option maxHeartbeats 4000000
set_option autoImplicit true
namespace L3
open PySem PySem.Spec PyProof.Rows L2 PySem.SxX
section
variable {X : Cx} {W : Bool} {F : Fm} {Γ : Gm} {Δ : Δs} {γ : Type} {P : Program} {rs cs : List Str}
variable {a : Addr} {oe : Obj} {cls : Value} {d : Option Addr} {pn : List (Addr × Obj)} {e : Er}
end
end L3
end
section
set_option maxHeartbeats 4000000
set_option autoImplicit true
namespace L3
open PySem PySem.Spec PyProof.Rows L2 PySem.SxX
open He (ga ma eqO eqO_ok ba)
structure XD where
  name : Str
  qual : Str
  params : Arguments
  body : List Stmt
  scope : Scope
  ps : List Str
abbrev FnX : Type := Option (Str × Str × Arguments × FuncBody × Scope × Addr × List Str × Addr)
def iAd (K : PySem.W.Frag) (x : Str) : Addr := ma K (ga K x) "__init__"
def fnXo (K : PySem.W.Frag) (x : Str) : FnX := match K.lookup (iAd K x) with
  | some ⟨_, _, .func fd, _⟩ => some (fd.name, fd.qualname, fd.params, fd.body, fd.scope, fd.globals, fd.closure.map (·.1), fd.builtins)
  | _ => none
def XD.val (d : XD) : FnX := some ("__init__", d.qual, d.params, .stmts d.body, d.scope, mainGlobals, ["__class__"], builtinsNs)
def clsXB (K : PySem.W.Frag) (C : Addr) : Bool := match K.lookup C with
  | some ⟨.type "type", _, .cls cd, sl⟩ => (match cd.mro, sl.toList with
    | .ref C' :: bm, [_, _, _, _, some (.builtin n), _] => C' == C && n == "ValueError.__new__" && !cd.hasDel && cd.hasDict && PySem.HandSPX.refsVE bm
    | _, _ => false)
  | _ => false
def iniXB (P : Program) (K : PySem.W.Frag) (C fI : Addr) (q : Str) : Bool := match K.lookup fI with
  | some ⟨_, _, .func fd, _⟩ => (match fd.defaults, fd.kwdefaults, fd.code, fd.closure with
    | .none, .none, .ref cda, [(_, cc)] => PySem.W.codeIn K (.ref cda) q && ((match K.lookup cda with
      | some ⟨_, _, .fields vs, _⟩ => (match ((vs : Array Value)[2]? : Option Value) with
        | some (.str file _) => (P.main.file : Str) == file
        | _ => false)
      | _ => false) && (match K.lookup cc with
      | some ⟨_, _, .cell (some (.ref C')), _⟩ => C' == C
      | _ => false))
    | _, _, _, _ => false)
  | _ => false
def XD.ok (P : Program) (K : PySem.W.Frag) (d : XD) : Bool :=
  clsXB K (ga K d.name) && (eqO (PySem.W.findIn K (.ref (ga K d.name)) "__setattr__") (some (some (.builtin "object.__setattr__"))) && ((d.ps.all fun f => eqO (PySem.W.findIn K (.ref (ga K d.name)) f) (some none)) && (eqO (PySem.W.findIn K (.ref (ga K d.name)) "__init__") (some (some (.ref (iAd K d.name)))) &&
  (decide (PySem.W.typeIn K (.ref (iAd K d.name)) = some (.type "function")) && (PySem.W.keepIn K (.ref (ga K d.name)) && (decide (PySem.W.subIn K (.ref (ga K d.name)) (.type "BaseException") = some true) && (decide (PySem.W.subIn K (.ref (ga K d.name)) (.type "ValueError") = some true) &&
  (decide (PySem.W.typeIn K (.ref (ga K d.name)) = some (.type "type")) && (eqO (PySem.W.ks_superIn K (ga K d.name) (ga K d.name) "__init__") (some (some (.builtin "ValueError.__init__"))) && (eqO (PySem.W.nsIn K cStatics "thirdparty.any") (some none) && (iniXB P K (ga K d.name) (iAd K d.name) d.qual &&
  (eqO (PySem.W.findIn K (.ref (ga K d.name)) "__getattribute__") (some (some (.builtin "BaseException.__getattribute__"))) && (eqO (PySem.W.findIn K (.ref (ga K d.name)) "__getattr__") (some none) && (PySem.W.hasDictIn K (ga K d.name) && (eqO (PySem.W.findIn K (.ref (ga K d.name)) "__class__") (some (some (.builtin "object.__class__"))) &&
  (eqO (PySem.W.specialIn K (.builtin "object.__class__") "__get__") (some (some (.builtin "getset_descriptor.__get__"))) && (decide (PySem.W.takesIn K (.builtin "object.__class__") = some true) && decide (PySem.W.mroIn K (ga K d.name) (.type "object") = some true))))))))))))))))))
def cU (K : PySem.W.Frag) (y : Str) : Value := if y = "ValueError" then .type "ValueError" else .ref (ga K y)
def tabB (K : PySem.W.Frag) (rs cs : List Str) : Bool := rs.all fun x => cs.all fun y => decide (PySem.W.kitOne K (.ref (ga K x)) (cU K y) = some (subC x y)) && decide (PySem.W.exmOne K (.ref (ga K x)) (cU K y) = some (subC x y))
abbrev AlX : Type := He.AlD × List FnX × Bool
def obsX (P : Program) (fa : List He.Fa) (fn : List He.DefD) (xs : List XD) (rs cs : List Str) (K : PySem.W.Frag) : AlX := (He.obsD fa fn K, xs.map fun d => fnXo K d.name, (xs.all fun d => d.ok P K) && tabB K rs cs)
def valX (fn : List He.DefD) (xs : List XD) : AlX := (He.valD fn, xs.map XD.val, true)
def SaysX (P : Program) (fa : List He.Fa) (fn : List He.DefD) (xs : List XD) (rs cs : List Str) (K : PySem.W.Frag) : Prop := obsX P fa fn xs rs cs K = valX fn xs
def obsXG (n : Nat) (P : Program) (fa : List He.Fa) (fn : List He.DefD) (xs : List XD) (rs cs : List Str) (g : Addr → Option Obj) : AlX := obsX P fa fn xs rs cs (He.frG g (cStatics :: He.asD g n))
def hookX (n : Nat) (P : Program) (fa : List He.Fa) (fn : List He.DefD) (xs : List XD) (rs cs : List Str) : PySem.W.Hook where
  α := AlX
  obs := fun s => obsXG n P fa fn xs rs cs s.heap.get?
  val := fun _ => valX fn xs
  says := fun _ h => ∃ K : PySem.W.Frag, K.In h ∧ SaysX P fa fn xs rs cs K
  of := fun _ _ e => ⟨_, He.frG_in, e⟩
  keeps := fun _ _ _ ⟨K, hK, c⟩ k => ⟨K, PySem.W.Frag.In.keeps hK k, c⟩
theorem obsXG_eq {n : Nat} {P : Program} {fa : List He.Fa} {fn : List He.DefD} {xs : List XD} {rs cs : List Str} {g : Addr → Option Obj} {s : Shared} (h : ∀ a, g a = s.heap.get? a) : obsXG n P fa fn xs rs cs g = (hookX n P fa fn xs rs cs).obs s := by
  have e : g = s.heap.get? := funext h
  rw [e] <;> rfl
section
variable {P : Program} {fa : List He.Fa} {fn : List He.DefD} {xs : List XD} {rs cs : List Str} {K : PySem.W.Frag}
theorem SaysX.d (c : SaysX P fa fn xs rs cs K) : He.SaysD fa fn K := congrArg (fun z : AlX => z.1) c
end
end L3
end
section
set_option maxHeartbeats 4000000
set_option autoImplicit true
namespace L3
open PySem PySem.Spec PyProof.Rows L2
section
variable {X : Cx} {F : Fm} {Γ : Gm} {Δ : Δs} {γ : Type}
variable {α β β3 δ : Type} {g : TG} {own : List (Str × Nat)} {T : Option γ} {k : β × List δ → Option γ} {Ex : α → Pd} {D : δ → Od} {bd : Gm → α → Gm} {xs : β → List α} {Δ1 : β → Δs} {f : β → α → Option δ} {y : β → α → β3 → δ}
end
section
variable {X : Cx} {W : Bool} {F : Fm} {Γ : Gm} {Δ : Δs} {γ : Type}
end
end L3
end
section
set_option maxHeartbeats 4000000
set_option autoImplicit true
namespace L3
open PySem PySem.Spec PyProof.Rows L2
section
variable {X : Cx} {W : Bool} {F : Fm} {Γ : Gm} {Δ : Δs} {γ : Type} {α β α' : Type} {E : α → Pd} {G : α' → Pd}
end
end L3
end
section
set_option maxHeartbeats 4000000
set_option autoImplicit true
namespace L3
open PySem PySem.Spec PyProof.Rows L2
section
variable {X : Cx} {W : Bool} {F : Fm} {Γ : Gm} {Δ : Δs} {γ : Type}
section
variable {a b : Expr} {pos : Pos} {β1 β2 α β : Type} {T : Option γ} {k1 : β1 → Option γ} {k : β1 × β2 → Option γ} {Δ1 : β1 → Δs} {Δ2 : β1 → β2 → Δs} {E : α → Pd} {G : β → Pd} {x : β1 → α × β} {y : β1 → β2 → α × β}
end
section
variable {a b : Expr} {pos : Pos} {β1 β2 α : Type} [DecidableEq α] {T : Option γ} {k1 : β1 → Option γ} {k : β1 × β2 → Option γ} {Δ1 : β1 → Δs} {Δ2 : β1 → β2 → Δs} {E : α → Pd} {x : β1 → α} {y : β1 → β2 → List α}
end
end
end L3
end
section
set_option maxHeartbeats 4000000
set_option autoImplicit true
namespace L3
open PySem PySem.Spec PyProof.Rows L2
section
variable {X : Cx} {W : Bool} {F : Fm} {Γ : Gm} {Δ : Δs} {γ : Type}
end
end L3
end
section
set_option maxHeartbeats 4000000
set_option autoImplicit true
namespace L3
open PySem PySem.Spec PyProof.Rows L2
section
variable {X : Cx}
end
section
variable {X : Cx} {F : Fm} {Γ : Gm} {Δ : Δs} {γ : Type} {κ δ : Type} [DecidableEq κ] [Ky κ]
variable {α β β2 β3 : Type} {g : TG} {own : List (Str × Nat)} {T : Option γ} {k : β × List (κ × δ) → Option γ} {Ex : α → Pd} {D : δ → Od} {bd : Gm → α → Gm} {xs : β → List α} {Δ1 : β → Δs} {f : β → α → Option (κ × δ)} {T2 : β → α → β2 → Option (κ × δ)} {ky : β → α → β2 → κ} {y : β → α → β2 → β3 → δ}
end
end L3
end
section
set_option maxHeartbeats 4000000
set_option autoImplicit true
namespace L3
open PySem PySem.Spec PyProof.Rows L2
section
variable {X : Cx} {W : Bool} {F : Fm} {Γ : Gm} {Δ : Δs} {γ : Type}
section
variable {a : Expr} {n} {p pos : Pos} {β α1 α2 α3 α4 : Type} {T : Option γ} {k : β → Option γ} {Δ1 : β → Δs} {A : α1 → Pd} {B : α2 → Pd} {C : α3 → Pd} {D : α4 → Pd}
end
end
section
variable {X : Cx} {W : Bool} {F : Fm} {Γ : Gm} {Δ : Δs} {γ : Type}
end
section
variable {X : Cx} {W : Bool} {F : Fm} {Γ : Gm} {Δ : Δs} {γ : Type} {κ α δ : Type} [DecidableEq κ] [Ky κ] [DecidableEq α] [DecidableEq δ]
variable {a b : Expr} {pos : Pos} {β1 β2 : Type} {T : Option γ} {k1 : β1 → Option γ} {k : β1 × β2 → Option γ} {Δ1 : β1 → Δs} {Δ2 : β1 → β2 → Δs} {E : α → Pd} {G : δ → Pd} {x : β1 → List α ⊕ List (κ × δ)} {y : β1 → β2 → List α ⊕ List (κ × δ)}
end
end L3
end
section
set_option maxHeartbeats 4000000
set_option autoImplicit true
namespace L3
open PySem PySem.Spec PyProof.Rows L2
section
variable {X : Cx} {W : Bool} {F : Fm} {Γ : Gm} {Δ : Δs} {γ : Type}
end
section
variable {X : Cx} {W : Bool} {F : Fm} {Γ : Gm} {Δ : Δs} {γ : Type} {κ α δ : Type} [DecidableEq κ] [Ky κ] [DecidableEq α] [DecidableEq δ]
variable {a b : Expr} {pos : Pos} {β1 β2 : Type} {T : Option γ} {k1 : β1 → Option γ} {k : β1 × β2 → Option γ} {Δ1 : β1 → Δs} {Δ2 : β1 → β2 → Δs} {E : α → Pd} {G : δ → Pd} {x : β1 → List α ⊕ List (κ × δ)} {y : β1 → β2 → List α ⊕ List (κ × δ)}
end
end L3
end
section
set_option maxHeartbeats 4000000
set_option autoImplicit true
namespace L3
open PySem PySem.Spec PyProof.Rows L2
section
variable {X : Cx} {W : Bool} {F : Fm} {Γ : Gm} {Δ : Δs} {γ : Type}
variable {N : Fn γ} {rest : List Stmt}
section
variable {κ α : Type} [DecidableEq κ] [Ky κ] {a b : Expr} {apos cpos : Pos} {β1 β2 : Type} {T : Option γ} {k1 : β1 → Option γ} {Δ1 : β1 → Δs} {Δ2 : β1 → β2 → Δs} {E1 : β1 → Pd} {Ee : α → Pd} {xs : β1 → β2 → List (κ × α)} {j : β1 → β2 → κ}
end
end
end L3
end
section
set_option maxHeartbeats 4000000
set_option autoImplicit true
namespace L3
open PySem PySem.Spec PyProof.Rows L2
section
variable {X : Cx} {W : Bool} {F : Fm} {Γ : Gm} {Δ : Δs} {γ : Type}
variable {N : Fn γ} {rest : List Stmt}
end
end L3
end
section
set_option maxHeartbeats 4000000
set_option autoImplicit true
namespace L3
open PySem PySem.Spec PyProof.Rows L2
section
variable {X : Cx} {pins : List (Addr × Obj)} {σ : SS} {H : Hp} {s : Shared} {a C dx : Addr} {fs : List (Str × V)} {f : Str} {v : V} {A : Around} {E : Value → Shared → Prop}
end
section
variable {X : Cx} {CX : CXT} {k : Nat} {f : Addr} {fd : FuncData} {ps : List Str} {sp : Sp} {E : XK} {m : Str} {pos apos : Pos} {e o : Expr} {es : List Expr} {ta : TE} {t : TA}
end
section
variable {X : Cx} {W : Bool} {F : Fm} {Γ : Gm} {Δ : Δs} {γ : Type}
variable {N : Fn γ} {rest : List Stmt}
end
def fI {ρ : Type} (F : Fm) (P : ρ → Δs) : Fn ρ := ⟨fun _ r D => ∀ σ' H', Hk F (P r) H' → D.nx σ' H', fun h _ => h⟩
section
variable {X : Cx} {W : Bool} {F : Fm} {Γ : Gm} {Δ : Δs} {γ : Type}
end
end L3
end
section
set_option maxHeartbeats 4000000
set_option autoImplicit true
namespace L3
open PySem PySem.Spec PyProof.Rows L2
section
variable {X : Cx} {W : Bool} {F : Fm} {Γ : Gm} {Δ : Δs} {γ : Type}
section
variable {a : Expr} {pos p : Pos} {β α : Type} {T : Option γ} {Δ1 : β → Δs} {E1 : β → Pd} {Ee : α → Pd} {xs : β → List α} {k : β → Option γ}
end
section
variable {a b : Expr} {pos : Pos} {β1 β2 α : Type} {T : Option γ} {k1 : β1 → Option γ} {Δ1 : β1 → Δs} {Δ2 : β1 → β2 → Δs} {E1 : β1 → Pd} {Ee : α → Pd} {xs : β1 → List α} {j : β1 → β2 → Int}
end
section
variable {a : Expr} {lo hi : Option Expr} {p2 pos : Pos} {β1 β2 β3 α : Type} {T : Option γ} {k1 : β1 → Option γ} {k2 : β1 → β2 → Option γ} {k : β1 × β2 × β3 → Option γ} {Ee : α → Pd} {xs : β1 → List α} {o1 : β1 → β2 → Option Int} {o2 : β1 → β2 → β3 → Option Int} {Δ1 : β1 → Δs} {Δ2 : β1 → β2 → Δs} {Δ3 : β1 → β2 → β3 → Δs}
end
section
variable {a b : Expr} {pos : Pos} {β1 β2 α : Type} {T : Option γ} {k1 : β1 → Option γ} {k : β1 × β2 → Option γ} {Δ1 : β1 → Δs} {Δ2 : β1 → β2 → Δs} {Ee : α → Pd} {xs : β1 → List α} {ys : β1 → β2 → List α}
end
section
variable {a b : Expr} {pos : Pos} {β1 β2 α : Type} [DecidableEq α] {T : Option γ} {k1 : β1 → Option γ} {k : β1 × β2 → Option γ} {Δ1 : β1 → Δs} {Δ2 : β1 → β2 → Δs} {E : α → Pd} {x : β1 → α} {y : β1 → β2 → List α}
end
section
variable {o e : Expr} {apos cpos : Pos} {β1 β2 : Type} {T : Option γ} {k1 : β1 → Option γ} {Δ1 : β1 → Δs} {Δ2 : β1 → β2 → Δs} {xs : β1 → List Str} {y : β1 → β2 → Str}
end
end
end L3
end
section
set_option maxHeartbeats 4000000
set_option autoImplicit true
namespace L3
open PySem PySem.Spec PyProof.Rows L2
section
variable {X : Cx} {W : Bool} {F : Fm} {Γ : Gm} {Δ : Δs} {γ : Type}
section
variable {a : Expr} {pos p : Pos} {β : Type} {T : Option γ} {Δ1 : β → Δs} {E1 : β → Pd} {xs : β → List (List Int)} {k : β × List Int → Option γ}
end
end
end L3
end
section
set_option maxHeartbeats 4000000
set_option autoImplicit true
namespace L3
open PySem PySem.Spec PyProof.Rows L2
open PySem.AutoSeq1 (wpAny_loadPart')
section
variable {prog : Program} {w : World} {A : Around} {E : Value → Shared → Prop} {s : Shared}
end
section
variable {X : Cx} {W : Bool} {F : Fm} {Γ : Gm} {Δ : Δs} {γ : Type}
section
variable {a b : Expr} {pos : Pos} {β1 β2 α : Type} [DecidableEq α] {T : Option γ} {k1 : β1 → Option γ} {k : β1 × β2 → Option γ} {Δ1 : β1 → Δs} {Δ2 : β1 → β2 → Δs} {E : α → Pd} {x : β1 → α} {y : β1 → β2 → List α} {E2 : β1 → β2 → Pd}
end
end
end L3
end
section
set_option maxHeartbeats 4000000
set_option autoImplicit true
namespace L3
open PySem PySem.Spec PyProof.Rows L2
section
variable {X : Cx} {W : Bool} {F : Fm} {Γ : Gm} {Δ : Δs} {γ : Type} {a : Expr} {n p pos} {β α1 α2 α3 α4 α5 : Type} {T : Option γ} {k : β → Option γ} {A1 : α1 → Pd} {A2 : α2 → Pd} {A3 : α3 → Pd} {A4 : α4 → Pd} {A5 : α5 → Pd} {Δ1 : β → Δs} {x : β → α1 × α2 × α3 × α4 × α5}
end
section
variable {X : Cx} {W : Bool} {F : Fm} {Γ : Gm} {Δ : Δs} {γ : Type} {a : Expr} {n p pos} {β α1 α2 α3 α4 α5 α6 : Type} {T : Option γ} {k : β → Option γ} {A1 : α1 → Pd} {A2 : α2 → Pd} {A3 : α3 → Pd} {A4 : α4 → Pd} {A5 : α5 → Pd} {A6 : α6 → Pd} {Δ1 : β → Δs} {x : β → α1 × α2 × α3 × α4 × α5 × α6}
end
section
variable {X : Cx} {W : Bool} {F : Fm} {Γ : Gm} {Δ : Δs} {γ : Type} {a : Expr} {n p pos} {β α1 α2 α3 α4 α5 α6 α7 : Type} {T : Option γ} {k : β → Option γ} {A1 : α1 → Pd} {A2 : α2 → Pd} {A3 : α3 → Pd} {A4 : α4 → Pd} {A5 : α5 → Pd} {A6 : α6 → Pd} {A7 : α7 → Pd} {Δ1 : β → Δs} {x : β → α1 × α2 × α3 × α4 × α5 × α6 × α7}
end
section
variable {X : Cx} {W : Bool} {F : Fm} {Γ : Gm} {Δ : Δs} {γ : Type}
section
variable {a : Expr} {n p p2 pos : Pos} {β α δ : Type} {T : Option γ} {k : β → Option γ} {E : α → Pd} {G : δ → Pd} {Δ1 : β → Δs}
end
variable {N : Fn γ} {rest : List Stmt}
end
end L3
end
section
set_option maxHeartbeats 4000000
set_option autoImplicit true
namespace L3
open PySem PySem.Spec PyProof.Rows L2 PySem.SxX
def TpK : HO → Prop
  | .tup _ => True
  | .frz _ (.tup _) => True
  | _ => False
def Tpy (H H' : Hp) : Prop := ∀ a o, TpK o → H a = some o → H' a = some o
section
variable {X : Cx} {W : Bool} {F : Fm} {Γ : Gm} {Δ : Δs} {γ : Type}
end
section
variable {X : Cx} {CX : CXT} {k : Nat} {f C : Addr} {fd : FuncData} {ps : List Str} {sp : Sp} {x : Str} {p pos : Pos} {e : Expr} {es : List Expr} {t : TA}
end
section
variable {X : Cx} {W : Bool} {F : Fm} {Γ : Gm} {Δ : Δs} {γ ε : Type}
variable {fI : Addr} {kk : Nat} {fd : FuncData} {ps : List Str} {α ρ β : Type} {cn : Str} {A : α → List Pd} {Mf : α → Option (Except ε ρ)} {ns : List Str} {R : ρ → List Pd} {C : Addr} {p pos : Pos} {e : Expr} {es : List Expr} {T : Option γ} {xs : β → α} {kc : β × ρ → Option γ} {D : β × ρ → Od} {Kx : Xk ε}
end
section
variable {X : Cx} {F : Fm} {Γ : Gm} {Δ : Δs} {γ ε : Type} {N : Fn γ} {rest : List Stmt} {ιx : ε → γ} {Kx : Xk ε} {Δx : Δs} {Nx : SS → Hp → Prop} {Wx : WX}
end
end L3
end
section
set_option maxHeartbeats 4000000
set_option autoImplicit true
namespace L3
open PySem PySem.Spec PyProof.Rows L2
section
variable {X : Cx} {W : Bool} {F : Fm} {Γ : Gm} {Δ : Δs} {γ : Type}
end
section
variable {X : Cx} {W : Bool} {F : Fm} {Γ : Gm} {Δ : Δs} {γ : Type} {a : Expr} {pos p : Pos} {β : Type} {T : Option γ} {Δ1 : β → Δs} {E1 : β → Pd} {xs : β → List Int} {k : β × Int → Option γ}
end
end L3
end
section
set_option maxHeartbeats 4000000
set_option autoImplicit true
namespace L3
open PySem PySem.Spec PyProof.Rows L2 PySem.SxX
section
variable {X : Cx} {W : Bool} {F : Fm} {Γ : Gm} {Δ : Δs} {γ : Type}
section
variable {a : Expr} {n} {p pos : Pos} {β α1 α2 α3 α4 α5 : Type} {T : Option γ} {k : β → Option γ} {Δ1 : β → Δs} {A : α1 → Pd} {B : α2 → Pd} {C : α3 → Pd} {D : α4 → Pd} {E : α5 → Pd}
end
end
section
variable {P : Pd → V → Prop} {gV : List V → List V → List V} {As : List Pd} {vs zs : List V}
end
section
variable {X : Cx} {CX : CXT} {k n : Nat} {f C : Addr} {fd : FuncData} {ps ks : List Str} {sp : Sp} {x : Str} {p pos : Pos} {e : Expr} {es : List Expr} {kws : List Keyword} {t tk : TA} {g : List Value → List Value → List Value} {gV : List V → List V → List V}
end
section
variable {X : Cx} {W : Bool} {F : Fm} {Γ : Gm} {Δ : Δs} {γ ε : Type}
variable {fI : Addr} {kk n : Nat} {fd : FuncData} {ps ks : List Str} {α ρ β1 β2 : Type} {cn : Str} {A : α → List Pd} {Mf : α → Option (Except ε ρ)} {ns : List Str} {R : ρ → List Pd} {C : Addr} {p pos : Pos} {e : Expr} {es : List Expr} {kws : List Keyword} {T : Option γ} {kc : (β1 × β2) × ρ → Option γ} {D : (β1 × β2) × ρ → Od} {Kx : Xk ε} {g : List Value → List Value → List Value} {gV : List V → List V → List V}
end
end L3
end
section
set_option maxHeartbeats 4000000
set_option autoImplicit true
namespace L3
open PySem PySem.Spec PyProof.Rows L2 PySem.SxX L2H
section
variable {P : Program} {w : World} {K : PySem.W.Frag} {mg : Str → Option Value} {base : Heap} {CX : CXT} {k : Nat} {f : Addr} {fd : FuncData} {N ps : List Str} {sp : Sp} {x qual : Str} {params : Arguments} {body : List Stmt} {scope : Scope} {dvs : List V} {kws : List (Str × V)}
end
section
variable {X : Cx} {CX : CXT} {k : Nat} {f : Addr} {fd : FuncData} {ps : List Str} {sp : Sp}
end
section
variable {X : Cx} {W : Bool} {F : Fm} {Γ : Gm} {Δ : Δs} {γ : Type}
end
end L3
end
section
set_option maxHeartbeats 4000000
set_option autoImplicit true
namespace L3
open PySem PySem.Spec PyProof.Rows L2
section
variable {X : Cx} {W : Bool} {F : Fm} {Γ : Gm} {Δ : Δs} {γ : Type}
end
end L3
end
section
set_option maxHeartbeats 4000000
set_option autoImplicit true
namespace L3
open PySem PySem.Spec PyProof.Rows L2
def FlatD (d : Od) : Prop := ∀ G H H' v, d.pr G H v → (∀ a ∈ G, H' a = H a) → Tpy H H' → d.pr G H' v
inductive FlatDs : List Od → Prop
  | nil : FlatDs []
  | cons {d : Od} {ds : List Od} : FlatD d → FlatDs ds → FlatDs (d :: ds)
theorem FlatDs.own {H H' : Hp} (t : Tpy H H') : ∀ {ds : List Od} {vs : List V} {gs : List (List Addr)}, FlatDs ds → Own3 (fun d : Od => d) H ds vs gs → (∀ a ∈ gs.flatten, H' a = H a) → Own3 (fun d : Od => d) H' ds vs gs
  | _, _, _, _, .nil, _ => .nil
  | _, _, _, .cons f fs, .cons r q, k => by
    rw [List.flatten_cons] at k
    exact .cons (f _ H H' _ r (fun a ha => k a (List.mem_append_left _ ha)) t) (FlatDs.own t fs q fun a ha => k a (List.mem_append_right _ ha))
section
variable {X : Cx} {W : Bool} {F : Fm} {Γ : Gm} {Δ : Δs} {γ : Type}
variable {N : Fn γ} {rest : List Stmt}
end
section
variable {X : Cx} {W : Bool} {F : Fm} {Γ : Gm} {Δ : Δs} {γ : Type}
end
end L3
end
section
set_option maxHeartbeats 4000000
set_option autoImplicit true
namespace L3
open PySem PySem.Spec PyProof.Rows L2
section
variable {X : Cx} {W : Bool} {F : Fm} {Γ : Gm} {Δ : Δs} {γ : Type}
section
variable {a b : Expr} {pos : Pos} {β1 β2 : Type} {T : Option γ} {k1 : β1 → Option γ} {k : β1 × β2 → Option γ} {Δ1 : β1 → Δs} {Δ2 : β1 → β2 → Δs} {xs : β1 → List Int} {ys : β1 → β2 → List Int}
end
end
end L3
end
section
set_option maxHeartbeats 4000000
namespace L3
open PySem PySem.Spec PyProof.Rows L2
section
variable {prog : Program} {w : World} {A : Around} {R : Result → Shared → Prop} {s : Shared} {kx vx t0 i0 t1 i1 : Expr} {ifs0 ifs1 : List Expr} {scope : Scope} {pos : Pos} {it acc : Value} {env : Env}
end
end L3
end
section
set_option maxHeartbeats 4000000
namespace L3
open PySem PySem.Spec PyProof.Rows L2
section
variable {X : Cx}
end
end L3
end
section
set_option maxHeartbeats 4000000
namespace L3
open PySem PySem.Spec PyProof.Rows L2
section
variable {κ δ : Type} [DecidableEq κ] [Ky κ]
variable {X : Cx} {F : Fm} {Γ : Gm} {Δ : Δs} {γ : Type}
variable {α α2 β β4 β5 β6 : Type} {g g2 : TG} {own : List (Str × Nat)} {vs1 : List Nat} {T : Option γ} {k : β × List (κ × δ) → Option γ} {Ex : α → Pd} {Ex2 : α2 → Pd} {D : δ → Od} {bd : Gm → α → Gm} {bd2 : Gm → α2 → Gm} {xs : β → List α} {C : β → Δs} {f : β → α → Option (List (κ × δ))}
    {ys : β → α → β4 → List α2} {h : β → α → β4 → α2 → Option (κ × δ)} {T2 : β → α → β4 → α2 → β5 → Option (κ × δ)} {ky : β → α → β4 → α2 → β5 → κ} {vy : β → α → β4 → α2 → β5 → β6 → δ}
end
end L3
namespace L3
open PySem PySem.Spec PyProof.Rows L2
section
variable {X : Cx} {W : Bool} {F : Fm} {Γ : Gm} {Δ : Δs} {γ : Type}
end
end L3
end
section
set_option maxHeartbeats 4000000
set_option autoImplicit true
namespace L3
open PySem PySem.Spec PyProof.Rows L2
section
variable {X : Cx} {W : Bool} {F : Fm} {Γ : Gm} {Δ : Δs} {γ : Type}
end
end L3
end
section
set_option maxHeartbeats 4000000
set_option autoImplicit true
namespace L3
open PySem PySem.Spec PyProof.Rows L2
section
variable {X : Cx} {W : Bool} {F : Fm} {Γ : Gm} {Δ : Δs} {γ : Type}
variable {N : Fn γ}
end
end L3
end
section
set_option maxHeartbeats 4000000
set_option autoImplicit true
namespace L3
open PySem PySem.Spec PyProof.Rows L2
section
variable {α β α' β' δ : Type} {E : α → Pd} {G : β → Pd} {E' : α' → Pd} {G' : β' → Pd} {D : δ → Pd}
end
section
variable {X : Cx} {W : Bool} {F : Fm} {Γ : Gm} {Δ : Δs} {γ : Type}
section
variable {α β : Type} {E : α → Pd} {G : β → Pd} {A : α → Od} {B : β → Od}
end
section
variable {a b : Expr} {pos p : Pos} {β1 β2 : Type} {T : Option γ} {k1 : β1 → Option γ} {k : β1 × β2 → Option γ} {c : β1 → Bool} {d : β1 → β2 → Bool} {Δ1 : β1 → Δs} {Δ2 : β1 → β2 → Δs}
end
end
end L3
end
section
set_option maxHeartbeats 4000000
set_option autoImplicit true
namespace L3
open PySem PySem.Spec PyProof.Rows L2
section
variable {α β δ α' : Type} {A : α → Od} {B : β → Od} {D : δ → Od} {E : α → Pd} {E' : α' → Pd}
end
section
variable {X : Cx} {W : Bool} {F : Fm} {Γ : Gm} {Δ : Δs} {γ : Type}
end
end L3
end
section
set_option maxHeartbeats 4000000
set_option autoImplicit true
namespace L3
open PySem PySem.Spec PyProof.Rows L2
section
variable {X : Cx} {W : Bool} {F : Fm} {Γ : Gm} {Δ : Δs} {γ : Type}
section
variable {α β β2 β3 δ S : Type} {g : TG} {own : List (Str × Nat)} {T : Option γ} {k0 : β → Option γ} {k : β × (List δ × S) → Option γ} {out : β × (List δ × S) → List δ} {Ex : α → Pd} {Ee : δ → Pd} {bd : Gm → α → Gm} {xs : β → List α} {Δ1 : β → Δs} {C : β → S → Δs} {s0 : β → S} {f : β → α → S → Option (Option δ × S)}
    {c : β → α → S → β2 → Bool} {s2 : β → α → S → β2 → S} {T2 : β → α → S → β2 → Option (Option δ × S)} {y : β → α → S → β2 → β3 → δ} {s3 : β → α → S → β2 → β3 → S}
end
end
end L3
end
section
set_option maxHeartbeats 4000000
set_option autoImplicit true
namespace L3
open PySem PySem.Spec PyProof.Rows L2
section
variable {X : Cx} {W : Bool} {F : Fm} {Γ : Gm} {Δ : Δs} {γ : Type}
section
variable {a b : Expr} {pos : Pos} {β1 β2 : Type} {T : Option γ} {k1 : β1 → Option γ} {k : β1 × β2 → Option γ} {Δ1 : β1 → Δs} {Δ2 : β1 → β2 → Δs} {i : β1 → Int} {v0 : V} {xs : β1 → β2 → List Int} {prm : Option Nat}
end
variable {α ρ β1 β2 : Type} {fI : Addr} {kk n : Nat} {fd : FuncData} {ps ks : List Str} {cn : Str} {A : α → List Pd} {Mf : α → Option ρ} {ns : List Str} {R : ρ → List Pd} {C : Addr} {p pos : Pos} {e : Expr} {es : List Expr} {kws : List Keyword} {T : Option γ} {kc : (β1 × β2) × ρ → Option γ} {D : (β1 × β2) × ρ → Od} {g : List Value → List Value → List Value} {gV : List V → List V → List V}
end
end L3
end
section
set_option maxHeartbeats 4000000
set_option autoImplicit true
namespace L3
open PySem PySem.Spec PyProof.Rows L2
section
variable {X : Cx} {W : Bool} {F : Fm} {Γ : Gm} {Δ : Δs} {γ : Type}
end
end L3
end
section
set_option maxHeartbeats 4000000
set_option autoImplicit true
namespace L3
open PySem PySem.Spec PyProof.Rows L2
section
variable {X : Cx} {W : Bool} {F : Fm} {Γ : Gm} {Δ : Δs} {γ : Type}
end
end L3
end
section
set_option maxHeartbeats 1000000
namespace L3
open PySem PySem.Spec PyProof.Rows L2 RZ
open PySem.Sem (wp)
section
variable {w : World} {prog : Program} {s : Shared} {A : Around} {E : Value → Shared → Prop}
end
section
variable {w : World} {prog : Program} {s : Shared} {A : Around} {E : Value → Shared → Prop}
end
section
variable {X : Cx} {W : Bool} {F : Fm} {Γ : Gm} {Δ : Δs} {γ : Type}
end
end L3
end
section
set_option maxHeartbeats 4000000
set_option autoImplicit true
namespace L3
open PySem PySem.Spec PyProof.Rows L2
section
variable {α1 α2 α3 α4 α5 : Type} {A : α1 → Pd} {B : α2 → Pd} {C : α3 → Pd} {D : α4 → Pd} {E : α5 → Pd}
end
section
variable {X : Cx} {W : Bool} {F : Fm} {Γ : Gm} {Δ : Δs} {γ : Type}
end
section
variable {α1 α2 α3 α4 α5 : Type} {A : α1 → Pd} {B : α2 → Pd} {C : α3 → Pd} {D : α4 → Pd} {E : α5 → Pd}
end
section
variable {X : Cx} {W : Bool} {F : Fm} {Γ : Gm} {Δ : Δs} {γ : Type} {a b : Expr} {pos : Pos} {β1 β2 : Type} {T : Option γ} {k1 : β1 → Option γ} {k : β1 × β2 → Option γ} {Δ1 : β1 → Δs} {Δ2 : β1 → β2 → Δs}
end
section
variable {X : Cx} {W : Bool} {F : Fm} {Γ : Gm} {Δ : Δs} {γ : Type} {a b : Expr} {pos : Pos} {α β1 β2 : Type} {Ee : α → Pd} {T : Option γ} {k1 : β1 → Option γ} {k : β1 × β2 → Option γ} {Δ1 : β1 → Δs} {Δ2 : β1 → β2 → Δs}
end
section
variable {X : Cx} {W : Bool} {F : Fm} {Γ : Gm} {Δ : Δs} {γ : Type}
end
end L3
end
section
set_option maxHeartbeats 4000000
set_option autoImplicit true
namespace L3
open PySem PySem.Spec PyProof.Rows L2
section
variable {X : Cx} {W : Bool} {F : Fm} {Γ : Gm} {Δ : Δs} {γ ε : Type}
variable {fI : Addr} {kk : Nat} {fd : FuncData} {ps : List Str} {α ρ β : Type} {cn : Str} {A : α → List Pd} {Mf : α → Option (Except ε ρ)} {ns : List Str} {R : ρ → List Od} {C : Addr} {p pos : Pos} {e : Expr} {es : List Expr} {T : Option γ} {xs : β → α} {kc : β × ρ → Option γ} {D : β × ρ → Od} {Kx : Xk ε}
end
section
variable {X : Cx} {F : Fm} {Γ : Gm} {Δ : Δs} {γ ε : Type} {N : Fn γ} {rest : List Stmt} {ιx : ε → γ} {Kx : Xk ε} {Δx : Δs} {Nx : SS → Hp → Prop} {Wx : WX}
end
section
variable {X : Cx} {W : Bool} {F : Fm} {Γ : Gm} {Δ : Δs} {γ : Type}
variable {N : Fn γ}
end
section
variable {X : Cx} {W : Bool} {F : Fm} {Γ : Gm} {Δ : Δs} {γ : Type}
end
end L3
end
section
set_option maxHeartbeats 4000000
namespace L3
open PySem PySem.Spec PyProof.Rows L2
section
variable {Δ : Δs}
end
section
variable {X : Cx} {W : Bool} {F : Fm} {Γ : Gm} {Δ : Δs} {γ : Type}
end
section
variable {κ α : Type} [DecidableEq κ] [Ky κ] {X : Cx} {W : Bool} {F : Fm} {Γ : Gm} {Δ : Δs} {γ : Type} {N : Fn γ} {rest : List Stmt}
end
section
variable {X : Cx} {W : Bool} {F : Fm} {Γ : Gm} {Δ : Δs} {γ β : Type} {N : Fn γ} {rest : List Stmt}
end
end L3
end
section
set_option maxHeartbeats 4000000
namespace L3
open PySem PySem.Spec PyProof.Rows L2
section
variable {κ : Type} [DecidableEq κ] [Ky κ] {X : Cx} {F : Fm} {Γ : Gm} {Δ : Δs} {γ : Type}
end
section
variable {X : Cx} {F : Fm} {Γ : Gm} {Δ : Δs} {γ : Type}
end
section
variable {α1 α2 α3 : Type} {A : α1 → Pd} {B : α2 → Pd} {C : α3 → Pd}
end
section
variable {X : Cx} {W : Bool} {F : Fm} {Γ : Gm} {Δ : Δs} {γ : Type} {a b : Expr} {pos : Pos} {β1 β2 α : Type} {T : Option γ} {k1 : β1 → Option γ} {k : β1 × β2 → Option γ} {Δ1 : β1 → Δs} {Δ2 : β1 → β2 → Δs} {E : α → Pd} {x : β1 → α} {y : β1 → β2 → α}
end
end L3
end
section
set_option maxHeartbeats 4000000
namespace L3
open PySem PySem.Spec PyProof.Rows L2
section
variable {κ δ : Type} [DecidableEq κ] [Ky κ] {X : Cx} {F : Fm} {Γ : Gm} {Δ : Δs} {γ : Type}
variable {α β β2 β3 β4 : Type} {g : TG} {own : List (Str × Nat)} {T : Option γ} {k : β × List (κ × δ) → Option γ} {Ex : α → Pd} {D : δ → Od} {bd : Gm → α → Gm} {xs : β → List α} {Δ1 : β → Δs} {f : β → α → Option (Option (κ × δ))} {c : β → α → β2 → Bool} {T2 : β → α → β2 → Option (Option (κ × δ))} {T3 : β → α → β2 → β3 → Option (Option (κ × δ))} {ky : β → α → β2 → β3 → κ} {y : β → α → β2 → β3 → β4 → δ}
end
end L3
end
section
set_option maxHeartbeats 4000000
namespace L3
open PySem PySem.Spec PyProof.Rows L2
section
variable {κ δ : Type} [DecidableEq κ] [Ky κ] {X : Cx} {W : Bool} {F : Fm} {Γ : Gm} {Δ : Δs} {γ : Type}
variable {α β β2 β3 β4 : Type} {g : TG} {own : List (Str × Nat)} {T : Option γ} {k : β × List (κ × δ) → Option γ} {Ex : α → Pd} {E : δ → Pd} {bd : Gm → α → Gm} {xs : β → List α} {Δ1 : β → Δs} {f : β → α → Option (Option (κ × δ))} {c : β → α → β2 → Bool} {T2 : β → α → β2 → Option (Option (κ × δ))} {T3 : β → α → β2 → β3 → Option (Option (κ × δ))} {ky : β → α → β2 → β3 → κ} {y : β → α → β2 → β3 → β4 → δ}
end
end L3
end
section
set_option maxHeartbeats 4000000
namespace L3
open PySem PySem.Spec PyProof.Rows L2
section
variable {κ α : Type} [DecidableEq κ] [Ky κ]
variable {X : Cx} {W : Bool} {F : Fm} {Γ : Gm} {Δ : Δs} {γ : Type}
end
end L3
end
section
set_option maxHeartbeats 4000000
namespace L3
open PySem PySem.Spec PyProof.Rows L2
section
variable {κ α : Type} [DecidableEq κ] [Ky κ] {X : Cx} {W : Bool} {F : Fm} {Γ : Gm} {Δ : Δs} {γ : Type}
end
section
variable {X : Cx} {F : Fm} {Γ : Gm} {Δ : Δs} {γ : Type}
end
end L3
end
section
set_option maxHeartbeats 4000000
namespace L3
open PySem PySem.Spec PyProof.Rows L2
section
variable {X : Cx} {W : Bool} {F : Fm} {Γ : Gm} {Δ : Δs} {γ : Type}
variable {N : Fn γ}
end
end L3
end
section
set_option maxHeartbeats 4000000
namespace L3
open PySem PySem.Spec PyProof.Rows L2
end L3
end
section
set_option maxHeartbeats 4000000
set_option synthInstance.maxSize 2000
noncomputable section
namespace My
open PySem PySem.Spec PyProof.Rows L2 L3
end My
end
section
set_option maxHeartbeats 4000000
set_option synthInstance.maxSize 2000
namespace My
open PySem PySem.Spec PyProof.Rows L2 L3
def top (i : Nat) : Stmt := PySem.Challenge.pw_curbdesk_k02_filled_and_trimmed.main.body.getD i (.Pass ⟨0, 0, 0, 0⟩)
def rsL : List Str := ["UnknownName"]
def csL : List Str := ["UnknownName", "RepeatedName", "UnknownValue", "RepeatedValue", "UnknownKey", "RepeatedKey", "EmptyRule", "BadRow", "BadBounds", "BadNumber", "BadStep", "NoMark", "NotStruck", "BadOrder", "NotBare", "NoClash", "HoldsAnswer", "BadLine", "UnknownLine", "BadText", "NothingToUndo", "NothingToRedo", "UnknownStep", "BadDeed", "DeskError", "ValueError"]
end My
end
section
set_option maxHeartbeats 4000000
set_option synthInstance.maxSize 2000
namespace My
open PySem PySem.Spec PyProof.Rows L2 L3
section
variable {P : Program} {w : World} {K : PySem.W.Frag} {mg : Str → Option Value} {base : Heap}
end
end My
end
section
set_option maxHeartbeats 4000000
set_option synthInstance.maxSize 2000
namespace My
open PySem PySem.Spec PyProof.Rows L2 L3
section
variable {P : Program} {w : World} {K : PySem.W.Frag} {mg : Str → Option Value} {base : Heap}
end
end My
end
section
set_option maxHeartbeats 4000000
set_option synthInstance.maxSize 2000
namespace My
open PySem PySem.Spec PyProof.Rows L2 L3
section
variable {P : Program} {w : World} {K : PySem.W.Frag} {mg : Str → Option Value} {base : Heap}
end
end My
end
section
set_option maxHeartbeats 4000000
set_option synthInstance.maxSize 2000
namespace My
open PySem PySem.Spec PyProof.Rows L2 L3
section
variable {P : Program} {w : World} {K : PySem.W.Frag} {mg : Str → Option Value} {base : Heap}
end
end My
end
section
set_option maxHeartbeats 4000000
set_option synthInstance.maxSize 2000
namespace My
open PySem PySem.Spec PyProof.Rows L2 L3
section
variable {P : Program} {w : World} {K : PySem.W.Frag} {mg : Str → Option Value} {base : Heap}
end
end My
end
section
set_option maxHeartbeats 4000000
set_option synthInstance.maxSize 2000
namespace My
open PySem PySem.Spec PyProof.Rows L2 L3
section
variable {P : Program} {w : World} {K : PySem.W.Frag} {mg : Str → Option Value} {base : Heap}
end
end My
end
section
set_option maxHeartbeats 4000000
set_option synthInstance.maxSize 2000
namespace My
open PySem PySem.Spec PyProof.Rows L2 L3
section
variable {P : Program} {w : World} {K : PySem.W.Frag} {mg : Str → Option Value} {base : Heap}
end
end My
end
section
set_option maxHeartbeats 4000000
set_option synthInstance.maxSize 2000
namespace My
open PySem PySem.Spec PyProof.Rows L2 L3
section
variable {P : Program} {w : World} {K : PySem.W.Frag} {mg : Str → Option Value} {base : Heap}
end
end My
end
section
set_option maxHeartbeats 4000000
set_option synthInstance.maxSize 2000
namespace My
open PySem PySem.Spec PyProof.Rows L2 L3
section
variable {P : Program} {w : World} {K : PySem.W.Frag} {mg : Str → Option Value} {base : Heap}
end
end My
end
section
set_option maxHeartbeats 4000000
set_option synthInstance.maxSize 2000
namespace My
open PySem PySem.Spec PyProof.Rows L2 L3
section
variable {P : Program} {w : World} {K : PySem.W.Frag} {mg : Str → Option Value} {base : Heap}
end
end My
end
section
set_option maxHeartbeats 4000000
set_option synthInstance.maxSize 2000
namespace My
open PySem PySem.Spec PyProof.Rows L2 L3
section
variable {P : Program} {w : World} {K : PySem.W.Frag} {mg : Str → Option Value} {base : Heap}
end
end My
end
section
set_option maxHeartbeats 4000000
set_option synthInstance.maxSize 2000
namespace My
open PySem PySem.Spec PyProof.Rows L2 L3
section
variable {P : Program} {w : World} {K : PySem.W.Frag} {mg : Str → Option Value} {base : Heap}
end
end My
end
section
set_option maxHeartbeats 4000000
set_option synthInstance.maxSize 2000
namespace My
open PySem PySem.Spec PyProof.Rows L2 L3
section
variable {P : Program} {w : World} {K : PySem.W.Frag} {mg : Str → Option Value} {base : Heap}
end
end My
end
section
set_option maxHeartbeats 4000000
set_option synthInstance.maxSize 2000
namespace My
open PySem PySem.Spec PyProof.Rows L2 L3
section
variable {P : Program} {w : World} {K : PySem.W.Frag} {mg : Str → Option Value} {base : Heap}
end
end My
end
section
set_option maxHeartbeats 4000000
set_option synthInstance.maxSize 2000
namespace My
open PySem PySem.Spec PyProof.Rows L2 L3
section
variable {P : Program} {w : World} {K : PySem.W.Frag} {mg : Str → Option Value} {base : Heap}
end
end My
end
section
set_option maxHeartbeats 4000000
set_option synthInstance.maxSize 2000
namespace My
open PySem PySem.Spec PyProof.Rows L2 L3
section
variable {P : Program} {w : World} {K : PySem.W.Frag} {mg : Str → Option Value} {base : Heap}
end
end My
end
section
set_option maxHeartbeats 4000000
set_option synthInstance.maxSize 2000
namespace My
open PySem PySem.Spec PyProof.Rows L2 L3
section
variable {P : Program} {w : World} {K : PySem.W.Frag} {mg : Str → Option Value} {base : Heap}
end
end My
end
section
set_option maxHeartbeats 4000000
set_option synthInstance.maxSize 2000
namespace My
open PySem PySem.Spec PyProof.Rows L2 L3
section
variable {P : Program} {w : World} {K : PySem.W.Frag} {mg : Str → Option Value} {base : Heap}
end
end My
end
section
set_option maxHeartbeats 4000000
set_option synthInstance.maxSize 2000
namespace My
open PySem PySem.Spec PyProof.Rows L2 L3
section
variable {P : Program} {w : World} {K : PySem.W.Frag} {mg : Str → Option Value} {base : Heap}
end
end My
end
section
set_option maxHeartbeats 4000000
set_option synthInstance.maxSize 2000
namespace My
open PySem PySem.Spec PyProof.Rows L2 L3
section
variable {P : Program} {w : World} {K : PySem.W.Frag} {mg : Str → Option Value} {base : Heap}
end
end My
end
section
set_option maxHeartbeats 4000000
set_option synthInstance.maxSize 2000
namespace My
open PySem PySem.Spec PyProof.Rows L2 L3
section
variable {P : Program} {w : World} {K : PySem.W.Frag} {mg : Str → Option Value} {base : Heap}
end
end My
end
section
set_option maxHeartbeats 4000000
set_option synthInstance.maxSize 2000
namespace My
open PySem PySem.Spec PyProof.Rows L2 L3
section
variable {P : Program} {w : World} {K : PySem.W.Frag} {mg : Str → Option Value} {base : Heap}
end
end My
end
section
namespace My
open PySem PySem.Spec PyProof.Rows L2 L3
section
variable {α β γ S ρ δ : Type}
end
end My
end
section
namespace My
open PySem PySem.Spec PyProof.Rows L2 L3
section
variable {κ α : Type} [DecidableEq κ]
end
end My
end
section
namespace My
open PySem PySem.Spec PyProof.Rows L2 L3
end My
end
section
namespace My
open PySem PySem.Spec PyProof.Rows L2 L3
end My
end
section
namespace My
open PySem PySem.Spec PyProof.Rows L2 L3
section
variable {κ α : Type} [DecidableEq κ]
end
section
variable {α S ρ δ : Type}
end
abbrev Box := List (Str × List Int)
end My
end
section
namespace My
open PySem PySem.Spec PyProof.Rows L2 L3
end My
end
section
namespace My
open PySem PySem.Spec PyProof.Rows L2 L3
end My
end
section
namespace My
open PySem PySem.Spec PyProof.Rows L2 L3
section
variable {ns : List Str} {D B : Box}
end
end My
end
section
namespace My
open PySem PySem.Spec PyProof.Rows L2 L3
section
variable {ns : List Str} {D B : Box}
end
end My
end
section
set_option maxHeartbeats 0
namespace My
open PySem PySem.Spec PyProof.Rows L2 L3
def d_common : He.DefD := ⟨("common", none), "common", "common", defArgs (top 27), defBody (top 27), defScope (top 27), [], []⟩
def d_filled : He.DefD := ⟨("filled", none), "filled", "filled", defArgs (top 29), defBody (top 29), defScope (top 29), [], []⟩
def d_trimmed : He.DefD := ⟨("trimmed", none), "trimmed", "trimmed", defArgs (top 30), defBody (top 30), defScope (top 30), [], []⟩
def d__law_is_integer : He.DefD := ⟨("_law_is_integer", none), "_law_is_integer", "_law_is_integer", defArgs (top 32), defBody (top 32), defScope (top 32), [], []⟩
def d__law_stream : He.DefD := ⟨("_law_stream", none), "_law_stream", "_law_stream", defArgs (top 33), defBody (top 33), defScope (top 33), [], []⟩
def d__law_next : He.DefD := ⟨("_law_next", none), "_law_next", "_law_next", defArgs (top 34), defBody (top 34), defScope (top 34), [], []⟩
def d__law_names : He.DefD := ⟨("_law_names", none), "_law_names", "_law_names", defArgs (top 35), defBody (top 35), defScope (top 35), [], []⟩
def d__law_pool : He.DefD := ⟨("_law_pool", none), "_law_pool", "_law_pool", defArgs (top 36), defBody (top 36), defScope (top 36), [], []⟩
def d__law_domains : He.DefD := ⟨("_law_domains", none), "_law_domains", "_law_domains", defArgs (top 37), defBody (top 37), defScope (top 37), [], []⟩
def d__law_part : He.DefD := ⟨("_law_part", none), "_law_part", "_law_part", defArgs (top 38), defBody (top 38), defScope (top 38), [], []⟩
def d__law_is_side : He.DefD := ⟨("_law_is_side", none), "_law_is_side", "_law_is_side", defArgs (top 39), defBody (top 39), defScope (top 39), [], []⟩
def d__law_same_sides : He.DefD := ⟨("_law_same_sides", none), "_law_same_sides", "_law_same_sides", defArgs (top 40), defBody (top 40), defScope (top 40), [], []⟩
def d__law_listed : He.DefD := ⟨("_law_listed", none), "_law_listed", "_law_listed", defArgs (top 41), defBody (top 41), defScope (top 41), [], []⟩
def d__law_drawn_side : He.DefD := ⟨("_law_drawn_side", none), "_law_drawn_side", "_law_drawn_side", defArgs (top 42), defBody (top 42), defScope (top 42), [], []⟩
def d__law_full : He.DefD := ⟨("_law_full", none), "_law_full", "_law_full", defArgs (top 43), defBody (top 43), defScope (top 43), [], []⟩
def d__law_slim : He.DefD := ⟨("_law_slim", none), "_law_slim", "_law_slim", defArgs (top 44), defBody (top 44), defScope (top 44), [], []⟩
def d__law_copied : He.DefD := ⟨("_law_copied", none), "_law_copied", "_law_copied", defArgs (top 45), defBody (top 45), defScope (top 45), [], []⟩
def d__law_new : He.DefD := ⟨("_law_new", none), "_law_new", "_law_new", defArgs (top 46), defBody (top 46), defScope (top 46), [], []⟩
def d__law_formed : He.DefD := ⟨("_law_formed", none), "_law_formed", "_law_formed", defArgs (top 47), defBody (top 47), defScope (top 47), [], []⟩
def d__law_told_name : He.DefD := ⟨("_law_told_name", none), "_law_told_name", "_law_told_name", defArgs (top 48), defBody (top 48), defScope (top 48), [], []⟩
def d__law_refused : He.DefD := ⟨("_law_refused", none), "_law_refused", "_law_refused", defArgs (top 49), defBody (top 49), defScope (top 49), [], []⟩
def d_law : He.DefD := ⟨("law", none), "law", "law", defArgs (top 50), defBody (top 50), defScope (top 50), [], []⟩
def cBody (s : Stmt) : List Stmt := match s with
  | .ClassDef _ _ _ b _ _ _ _ _ _ _ => b
  | _ => []
def ini (i : Nat) : Stmt := (cBody (top i)).getD 0 (.Pass ⟨0, 0, 0, 0⟩)
def x_UnknownName : XD := ⟨"UnknownName", "UnknownName.__init__", defArgs (ini 2), defBody (ini 2), defScope (ini 2), ["name"]⟩
def xs : List XD := [x_UnknownName]
def fn : List He.DefD := [d_common, d_filled, d_trimmed, d__law_is_integer, d__law_stream, d__law_next, d__law_names, d__law_pool, d__law_domains, d__law_part, d__law_is_side, d__law_same_sides, d__law_listed, d__law_drawn_side, d__law_full, d__law_slim, d__law_copied, d__law_new, d__law_formed, d__law_told_name, d__law_refused, d_law]
def fa : List He.Fa := [.glo "common", .glo "filled", .glo "trimmed", .glo "_law_is_integer", .glo "_law_stream", .glo "_law_next", .glo "_law_names", .glo "_law_pool", .glo "_law_domains", .glo "_law_part", .glo "_law_is_side", .glo "_law_same_sides", .glo "_law_listed", .glo "_law_drawn_side", .glo "_law_full", .glo "_law_slim", .glo "_law_copied", .glo "_law_new", .glo "_law_formed", .glo "_law_told_name", .glo "_law_refused", .glo "law", .glo "UnknownName", .glo "RepeatedName", .glo "UnknownValue", .glo "RepeatedValue", .glo "UnknownKey", .glo "RepeatedKey", .glo "EmptyRule", .glo "BadRow", .glo "BadBounds", .glo "BadNumber", .glo "BadStep", .glo "NoMark", .glo "NotStruck", .glo "BadOrder", .glo "NotBare", .glo "NoClash", .glo "HoldsAnswer", .glo "BadLine", .glo "UnknownLine", .glo "BadText", .glo "NothingToUndo", .glo "NothingToRedo", .glo "UnknownStep", .glo "BadDeed", .glo "DeskError", .free "ValueError", .free "all", .free "bool", .free "dict", .free "int", .free "isinstance", .free "len", .free "list", .free "range", .free "str", .free "super"]
def loose0 : List PySem.Str := ["DeskError", "UnknownName", "RepeatedName", "UnknownValue", "RepeatedValue", "UnknownKey", "RepeatedKey", "EmptyRule", "BadRow", "BadBounds", "BadNumber", "BadStep", "NoMark", "NotStruck", "BadOrder", "NotBare", "NoClash", "HoldsAnswer", "BadLine", "UnknownLine", "BadText", "NothingToUndo", "NothingToRedo", "UnknownStep", "BadDeed", "common", "filled", "trimmed", "_law_is_integer", "_law_stream"]
def loose1 : List PySem.Str := ["_law_next", "_law_names", "_law_pool", "_law_domains", "_law_part", "_law_is_side", "_law_same_sides", "_law_listed", "_law_drawn_side", "_law_full", "_law_slim", "_law_copied", "_law_new", "_law_formed", "_law_told_name", "_law_refused"]
def loose : List PySem.Str := loose0 ++ loose1
abbrev R : PySem.W.OpenRow := PySem.W.OpenLaw.row PySem.Challenge.rw_curbdesk_k02_filled_and_trimmed
abbrev hk : PySem.W.Hook := hookX 4 R.prog fa fn xs rsL csL
def ob (s : PySem.W.SharedT) : AlX := obsXG 4 R.prog fa fn xs rsL csL (HandSHeadRun.getT s)
theorem ob_eq (s : PySem.W.SharedT) : ob s = hk.obs s.abs := obsXG_eq (HandSHeadRun.getT_eq s)
theorem run (w : World) : HandSHeadRun.RunEq R (PySem.W.view R.prog [50]) hk ob 30000 loose w := by
  intro os
  kernel_rfl
end My
end
section
set_option maxHeartbeats 4000000
namespace L3
open PySem PySem.Spec PyProof.Rows L2
theorem Fzs.refl (H : Hp) : Fzs H H := fun _ _ _ h => h
theorem Gr.refl (H : Hp) : Gr H H := fun _ _ h => h
theorem Gr.fzs {H H' : Hp} (g : Gr H H') : Fzs H H' := fun a o _ h => g a o h
theorem Fzs.mut {H : Hp} {p : Addr} {o u : HO} (h : H p = some o) (m : ¬ Pst o) : Fzs H (upd H p u) := fun a x px e => by
  have : a ≠ p := fun z => by subst z; rw [h] at e; cases e; exact m px
  rw [upd_ne this]; exact e
def pBl (b : Bool) : Pd := ⟨fun _ v => v = .bl b, fun _ h => h⟩
def pNon : Pd := ⟨fun _ v => v = .non, fun _ h => h⟩
def pV (u : V) : Pd := ⟨fun _ v => v = u, fun _ h => h⟩
def pOp {α : Type} (E : α → Pd) : Option α → Pd
  | none => pNon
  | some x => E x
def pT2 {α β : Type} (E : α → Pd) (G : β → Pd) (x : α × β) : Pd where
  pr H v := ∃ a u w, v = .ref a ∧ H a = some (.tup [u, w]) ∧ (E x.1).pr H u ∧ (G x.2).pr H w
  mono := fun f ⟨a, u, w, e, h, p, q⟩ => ⟨a, u, w, e, f _ _ trivial h, (E _).mono f p, (G _).mono f q⟩
def pT3 {α β γ : Type} (E : α → Pd) (G : β → Pd) (K : γ → Pd) (x : α × β × γ) : Pd where
  pr H v := ∃ a u w z, v = .ref a ∧ H a = some (.tup [u, w, z]) ∧ (E x.1).pr H u ∧ (G x.2.1).pr H w ∧ (K x.2.2).pr H z
  mono := fun f ⟨a, u, w, z, e, h, p, q, r⟩ => ⟨a, u, w, z, e, f _ _ trivial h, (E _).mono f p, (G _).mono f q, (K _).mono f r⟩
def pD {α : Type} (E : α → Pd) (xs : List (Str × α)) : Pd where
  pr H v := ∃ a o kvs, v = .ref a ∧ H a = some (.frz o (.dK kvs)) ∧ xs.length ≤ sizeLine ∧ Paired (fun (x : Str × α) (u : Key × V) => u.1 = .inr x.1 ∧ (E x.2).pr H u.2) xs kvs
  mono := fun f ⟨a, o, vs, e, h, z, p⟩ => ⟨a, o, vs, e, f _ _ trivial h, z, paired_mono (fun x _ q => ⟨q.1, (E x.2).mono f q.2⟩) p⟩
theorem upd_dom {H : Hp} (p : Addr) (u : HO) : ∀ a o, H a = some o → ∃ z, upd H p u a = some z := fun a o e => by
  by_cases h : a = p
  · exact ⟨u, by rw [h, upd_same]⟩
  · exact ⟨o, by rw [upd_ne h, e]⟩
theorem inv_lk {X : Cx} {pins : List (Addr × Obj)} {σ : SS} {s : Shared} {Φ : Hp → Prop} : ∀ {G : List Addr} {H : Hp}, Inv X pins σ H s → tLk G Φ H → ∃ H', Inv X pins σ H' s ∧ Φ H'
  | [], H, I, h => ⟨H, I, h⟩
  | _ :: _, _, I, ⟨u, h, m, k⟩ => by
    obtain ⟨o, I'⟩ := I.lock h m
    exact inv_lk I' (k o)
theorem lk_fzs {G : List Addr} {H H1 : Hp} (hm : ∀ a ∈ G, ∃ o, H a = some o ∧ Mut (some o)) (h1 : ∀ a, a ∉ G → H1 a = H a) : Fzs H H1 := fun a o p e => by
  rw [h1 a fun ha => ?_]
  · exact e
  · obtain ⟨u, eu, m⟩ := hm a ha
    rw [e] at eu
    cases eu
    exact Mut.npst m p
theorem one_cells {p : Addr} {G : List Addr} {H : Hp} {u : HO} (eg : G = [p]) (h : H p = some u) (m : Mut (some u)) : ∀ a ∈ G, ∃ o, H a = some o ∧ Mut (some o) := fun a ha => by
  rw [eg] at ha
  rw [List.mem_singleton.mp ha]
  exact ⟨_, h, m⟩
def oL {α : Type} (E : α → Pd) (xs : List α) : Od where
  pr G H v := ∃ p vs, G = [p] ∧ v = .ref p ∧ H p = some (.lst vs) ∧ xs.length ≤ sizeLine ∧ Paired (fun x u => (E x).pr H u) xs vs
  pd := pL E xs
  frame := fun ⟨p, vs, eg, ev, h, z, q⟩ k f => ⟨p, vs, eg, ev, k p (by rw [eg]; exact List.mem_singleton.mpr rfl) _ h, z, paired_mono (fun x _ => (E x).mono f) q⟩
  cells := fun ⟨p, vs, eg, ev, h, z, q⟩ => one_cells eg h trivial
  lockd := fun ⟨p, vs, eg, ev, h, z, q⟩ h1 h2 => by
    obtain ⟨o, ho⟩ := h2 p (by rw [eg]; exact List.mem_singleton.mpr rfl) _ h
    exact ⟨p, o, vs, ev, ho, z, paired_mono (fun x _ => (E x).mono (lk_fzs (one_cells eg h trivial) h1)) q⟩
def oD {α : Type} (E : α → Pd) (xs : List (Str × α)) : Od where
  pr G H v := ∃ p kvs, G = [p] ∧ v = .ref p ∧ H p = some (.dK kvs) ∧ xs.length ≤ sizeLine ∧ Paired (fun (x : Str × α) (u : Key × V) => u.1 = .inr x.1 ∧ (E x.2).pr H u.2) xs kvs
  pd := pD E xs
  frame := fun ⟨p, vs, eg, ev, h, z, q⟩ k f => ⟨p, vs, eg, ev, k p (by rw [eg]; exact List.mem_singleton.mpr rfl) _ h, z, paired_mono (fun x _ q => ⟨q.1, (E x.2).mono f q.2⟩) q⟩
  cells := fun ⟨p, vs, eg, ev, h, z, q⟩ => one_cells eg h trivial
  lockd := fun ⟨p, vs, eg, ev, h, z, q⟩ h1 h2 => by
    obtain ⟨o, ho⟩ := h2 p (by rw [eg]; exact List.mem_singleton.mpr rfl) _ h
    exact ⟨p, o, vs, ev, ho, z, paired_mono (fun x _ q => ⟨q.1, (E x.2).mono (lk_fzs (one_cells eg h trivial) h1) q.2⟩) q⟩
theorem cellsOf_app (A B : List Cel) : cellsOf (A ++ B) = cellsOf A ++ cellsOf B := by unfold cellsOf; rw [List.flatMap_append]
theorem HkO.gr {F : Fm} {Δ : List Cel} {H H' : Hp} (k : HkO F Δ H) (g : Gr H H') : HkO F Δ H' :=
  ⟨fun a o e m => g a o (k.base a o e m), fun c hc => c.d.frame (k.del c hc) (fun a _ o e => g a o e) g.fzs, k.nod, k.own, fun m hm a ha => (k.mem m hm a ha).imp fun o e => g a o e⟩
theorem Hk.gr {F : Fm} {Δ : Δs} {H H' : Hp} (k : Hk F Δ H) (g : Gr H H') : Hk F Δ H' := by
  obtain ⟨Δ0, e, k⟩ := k
  exact ⟨Δ0, e, k.gr g⟩
theorem Ok.gr {F : Fm} {Γ : Gm} {Δ : Δs} {σ : SS} {H H' : Hp} (k : Ok F Γ Δ σ H) (g : Gr H H') : Ok F Γ Δ σ H' := ⟨k.hk.gr g, k.nm.mono g.fzs⟩
theorem HkO.add {F : Fm} {Δ : List Cel} {H H' : Hp} (k : HkO F Δ H) (g : Gr H H') {G : List Addr} {v : V} {d : Od} (nd : G.Nodup) (new : ∀ a ∈ G, H a = none) (h : d.pr G H' v) : HkO F (⟨G, v, d, none⟩ :: Δ) H' :=
  (k.gr g).cons (c := ⟨G, v, d, none⟩) nd (fun a ha hb => by
    obtain ⟨o, e, _⟩ := k.isC hb
    rw [new a ha] at e
    cases e) h fun a ha => .inl (k.fresh0 (new a ha))
theorem Ok.add {W : Bool} {F : Fm} {Γ : Gm} {Δ : Δs} {σ : SS} {H H' : Hp} (k : Ok F Γ Δ σ H) (g : Gr H H') {G : List Addr} {v : V} {d : Od} (nd : G.Nodup) (new : ∀ a ∈ G, H a = none) (h : d.pr G H' v) : OkN W F Γ H v d Δ σ H' := by
  obtain ⟨⟨Δ0, e, hk⟩, n⟩ := k
  exact ⟨Δ0, G, e, hk.add g nd new h, fun _ => new, n.mono g.fzs⟩
end L3
end
section
set_option maxHeartbeats 4000000
set_option autoImplicit true
namespace L3
open PySem PySem.Spec PyProof.Rows L2
def grd {γ : Type} (c : Prop) [Decidable c] (x : Option γ) : Option γ := if c then x else none
theorem grd_some {γ : Type} {c : Prop} [Decidable c] {x : Option γ} {g : γ} (h : grd c x = some g) : c ∧ x = some g := by
  unfold grd at h
  by_cases q : c
  · rw [if_pos q] at h; exact ⟨q, h⟩
  · rw [if_neg q] at h; cases h
theorem bind_some {α γ : Type} {m : Option α} {k : α → Option γ} {g : γ} (h : m.bind k = some g) : ∃ a, m = some a ∧ k a = some g := by
  cases m with
  | none => cases h
  | some a => exact ⟨a, rfl, h⟩
theorem St.refl {W : Bool} (H : Hp) : St W H H := ⟨Fzs.refl H, fun _ => Gr.refl H, fun _ o h => ⟨o, h⟩⟩
theorem Gr.st {W : Bool} {H H' : Hp} (g : Gr H H') : St W H H' := ⟨g.fzs, fun _ => g, fun a o h => ⟨o, g a o h⟩⟩
theorem St.gr {H H' : Hp} (s : St false H H') : Gr H H' := s.kp rfl
theorem OkN.since {F : Fm} {Γ : Gm} {Δ : Δs} {σ : SS} {H0 H H' : Hp} {v : V} {d : Od} {W : Bool} (k : OkN W F Γ H v d Δ σ H') (s : St W H0 H) : OkN W F Γ H0 v d Δ σ H' := by
  obtain ⟨Δ0, G, e, k, nw, n⟩ := k
  exact ⟨Δ0, G, e, k, fun hw a ha => s.back (nw hw a ha), n⟩
def tE {β γ : Type} (W : Bool) (F : Fm) (Γ : Gm) (Δ : Δs) (T : Option γ) (k : β → Option γ) (E : β → Pd) (Δ' : β → Δs) : TE := fun σ H Q =>
  Ok F Γ Δ σ H ∧ ∃ g, T = some g ∧ ∀ b v H', k b = some g → St W H H' → Ok F Γ (Δ' b) σ H' → (E b).pr H' v → Q v H'
def tO {β γ : Type} (W : Bool) (F : Fm) (Γ : Gm) (Δ : Δs) (T : Option γ) (k : β → Option γ) (D : β → Od) (Δ' : β → Δs) : TE := fun σ H Q =>
  Ok F Γ Δ σ H ∧ ∃ g, T = some g ∧ ∀ b v H', k b = some g → St W H H' → OkN W F Γ H v (D b) (Δ' b) σ H' → Q v H'
def tAr {β γ : Type} (W : Bool) (F : Fm) (Γ : Gm) (Δ : Δs) (T : Option γ) (k : β → Option γ) (Es : β → List Pd) (Δ' : β → Δs) : TA := fun σ H Q =>
  Ok F Γ Δ σ H ∧ ∃ g, T = some g ∧ ∀ b vs H', k b = some g → St W H H' → Ok F Γ (Δ' b) σ H' → Paired (fun p v => Pd.pr p H' v) (Es b) vs → Q vs H'
def tTs {β γ : Type} (W : Bool) (F : Fm) (Γ : Gm) (Δ : Δs) (T : Option γ) (k : β → Option γ) (c : β → Bool) (Δ' : β → Δs) : TT := fun σ H Q =>
  Ok F Γ Δ σ H ∧ ∃ g, T = some g ∧ ∀ b H', k b = some g → St W H H' → Ok F Γ (Δ' b) σ H' → Q (c b) H'
def tS {γ : Type} (F : Fm) (Γ : Gm) (Δ : Δs) (N : Fn γ) (T : Option γ) : TS := fun D σ H => Ok F Γ Δ σ H ∧ ∃ g, T = some g ∧ N.fin H g D
section
variable {X : Cx}
theorem _root_.L2.PE.wk {e : Expr} {t t' : TE} (h : PE X e t) (w : ∀ σ H Q, t' σ H Q → t σ H Q) : PE X e t' := ⟨fun pins s σ H Q I q => h.run pins s σ H Q I (w σ H Q q)⟩
theorem _root_.L2.PA.wk {e : List Expr} {t t' : TA} (h : PA X e t) (w : ∀ σ H Q, t' σ H Q → t σ H Q) : PA X e t' := ⟨fun p pins s σ H Q I q => h.run p pins s σ H Q I (w σ H Q q)⟩
theorem _root_.L2.PT.wk {e : Expr} {t t' : TT} (h : PT X e t) (w : ∀ σ H Q, t' σ H Q → t σ H Q) : PT X e t' := ⟨fun pins s σ H Q I q => h.run pins s σ H Q I (w σ H Q q)⟩
theorem _root_.L2.PW.wk {e : Expr} {t t' : TT} (h : PW X e t) (w : ∀ σ H Q, t' σ H Q → t σ H Q) : PW X e t' := ⟨fun wh pins s σ H Q I q => h.run wh pins s σ H Q I (w σ H Q q)⟩
theorem _root_.L2.PSs.wk {e : List Stmt} {t t' : TS} (h : PSs X e t) (w : ∀ D σ H, t' D σ H → t D σ H) : PSs X e t' := ⟨fun pins s σ H D I q => h.run pins s σ H D I (w D σ H q)⟩
theorem _root_.L2.PS.wk {e : Stmt} {t t' : TS} (h : PS X e t) (w : ∀ D σ H, t' D σ H → t D σ H) : PS X e t' := ⟨fun pins s σ H D I q => h.run pins s σ H D I (w D σ H q)⟩
theorem pe_ex {β : Type} {e : Expr} {t : β → TE} (h : ∀ b, PE X e (t b)) : PE X e (fun σ H Q => ∃ b, t b σ H Q) := ⟨fun pins s σ H Q I ⟨b, q⟩ => (h b).run pins s σ H Q I q⟩
theorem pa_ex {β : Type} {e : List Expr} {t : β → TA} (h : ∀ b, PA X e (t b)) : PA X e (fun σ H Q => ∃ b, t b σ H Q) := ⟨fun p pins s σ H Q I ⟨b, q⟩ => (h b).run p pins s σ H Q I q⟩
theorem pt_ex {β : Type} {e : Expr} {t : β → TT} (h : ∀ b, PT X e (t b)) : PT X e (fun σ H Q => ∃ b, t b σ H Q) := ⟨fun pins s σ H Q I ⟨b, q⟩ => (h b).run pins s σ H Q I q⟩
theorem pw_ex {β : Type} {e : Expr} {t : β → TT} (h : ∀ b, PW X e (t b)) : PW X e (fun σ H Q => ∃ b, t b σ H Q) := ⟨fun wh pins s σ H Q I ⟨b, q⟩ => (h b).run wh pins s σ H Q I q⟩
theorem pss_ex {β : Type} {e : List Stmt} {t : β → TS} (h : ∀ b, PSs X e (t b)) : PSs X e (fun D σ H => ∃ b, t b D σ H) := ⟨fun pins s σ H D I ⟨b, q⟩ => (h b).run pins s σ H D I q⟩
variable {W : Bool} {F : Fm} {Γ : Gm} {Δ : Δs} {γ : Type}
theorem x_var (i : Nat) {x : Str} {pos : Pos} {p : Pd} {k : Unit → Option γ} (h : Γ[i]? = some (some p) := by rfl) (hN : X.N[i]? = some x := by rfl) (hv : Vis X.env.scope x := by first | exact Or.inl rfl | exact Or.inr (Or.inl rfl) | exact Or.inr (Or.inr rfl))
    (hd : (x == ("__debug__" : Str)) = false := by decide) (hcd : (x == ("__classdict__" : Str)) = false := by decide) : PE X (.Name x pos) (tE W F Γ Δ (k ()) k (fun _ => p) fun _ => Δ) :=
  (pe_var hN hv hd hcd).wk fun σ H Q ⟨ok, g, e, q⟩ => by
    obtain ⟨v, hs, hp⟩ := ok.gam i p h
    exact ⟨v, hs, q () v H e (St.refl H) ok hp⟩
theorem x_c {e : Expr} {v : V} {p : Pd} {k : Unit → Option γ} (he : PE X e (tC v)) (hp : ∀ H, p.pr H v) : PE X e (tE W F Γ Δ (k ()) k (fun _ => p) fun _ => Δ) :=
  he.wk fun σ H Q ⟨ok, g, e, q⟩ => q () v H e (St.refl H) ok (hp H)
theorem x_int {i : Int} {j pos} {k : Unit → Option γ} : PE X (.Constant (.int i) j pos) (tE W F Γ Δ (k ()) k (fun _ => pInt i) fun _ => Δ) := x_c pe_int fun _ => rfl
theorem x_bl {i : Bool} {j pos} {k : Unit → Option γ} : PE X (.Constant (.bool i) j pos) (tE W F Γ Δ (k ()) k (fun _ => pBl i) fun _ => Δ) := x_c pe_bl fun _ => rfl
theorem x_str {i : Str} {j pos} {k : Unit → Option γ} : PE X (.Constant (.str i) j pos) (tE W F Γ Δ (k ()) k (fun _ => pStr i) fun _ => Δ) := x_c pe_str fun _ => rfl
theorem x_non {j pos} {k : Unit → Option γ} : PE X (.Constant .none j pos) (tE W F Γ Δ (k ()) k (fun _ => pNon) fun _ => Δ) := x_c pe_non fun _ => rfl
def Bin2 (X : Cx) (e a b : Expr) (r : R2) : Prop := ∀ ta tb, PE X a ta → PE X b tb → PE X e (tOp r ta tb)
theorem b_op {op : Operator} {r : R2} {a b : Expr} {pos : Pos} (ho : OpR X (binaryOp op) r) : Bin2 X (.BinOp a op b pos) a b r := fun _ _ ha hb => pe_op ho ha hb
theorem b_cmp {op : CmpOp} {r : R2} {a b : Expr} {pos : Pos} (ho : OpR X (compareOp op) r) (hm : behindInMarks op b = false) : Bin2 X (.Compare a [op] [b] pos) a b r := fun _ _ ha hb => pe_cmpR ho ha hb hm
theorem b_ix {r : R2} {a b : Expr} {pos : Pos} (ho : IxR X r) (hs : PlainIx b) : Bin2 X (.Subscript a b pos) a b r := fun _ _ ha hb => pe_ix ho ha hb hs
section
variable {e a b : Expr} {r : R2} {β1 β2 : Type} {T : Option γ} {k1 : β1 → Option γ} {k2 : β1 → β2 → Option γ} {E1 : β1 → Pd} {E2 : β1 → β2 → Pd} {Δ1 : β1 → Δs} {Δ2 : β1 → β2 → Δs}
theorem x2_core {t' : TE} (h2 : Bin2 X e a b r) (ha : PE X a (tE W F Γ Δ T k1 E1 Δ1)) (hb : ∀ b1, PE X b (tE W F Γ (Δ1 b1) (k1 b1) (k2 b1) (E2 b1) (Δ2 b1)))
    (hw : ∀ σ H Q, t' σ H Q → Ok F Γ Δ σ H ∧ ∃ g, T = some g ∧ ∀ b1 b2 v w H2, k2 b1 b2 = some g → St W H H2 → Ok F Γ (Δ2 b1 b2) σ H2 → (E1 b1).pr H2 v → (E2 b1 b2).pr H2 w → r v w H2 Q) : PE X e t' :=
  (h2 _ _ ha (pe_ex hb)).wk fun σ H Q h => by
    obtain ⟨ok, g, e, q⟩ := hw σ H Q h
    exact ⟨ok, g, e, fun b1 v H1 kb f1 ok1 hv => ⟨b1, ok1, g, kb, fun b2 w H2 kb2 f2 ok2 hw => q b1 b2 v w H2 kb2 (f1.trans f2) ok2 ((E1 b1).mono f2.fz hv) hw⟩⟩
theorem x2t {E : β1 × β2 → Pd} {k : β1 × β2 → Option γ} (h2 : Bin2 X e a b r) (ha : PE X a (tE W F Γ Δ T k1 E1 Δ1)) (hb : ∀ b1, PE X b (tE W F Γ (Δ1 b1) (k1 b1) (fun b2 => k (b1, b2)) (E2 b1) (Δ2 b1)))
    (hv : ∀ b1 b2 σ v w H Q, Ok F Γ (Δ2 b1 b2) σ H → (E1 b1).pr H v → (E2 b1 b2).pr H w → (∀ u, (E (b1, b2)).pr H u → Q u H) → r v w H Q) : PE X e (tE W F Γ Δ T k E fun b => Δ2 b.1 b.2) :=
  x2_core h2 ha hb fun σ H Q ⟨ok, g, e, q⟩ => ⟨ok, g, e, fun b1 b2 v w H2 kb f ok2 hv1 hv2 => hv b1 b2 σ v w H2 Q ok2 hv1 hv2 fun u hu => q (b1, b2) u H2 kb f ok2 hu⟩
theorem x2g {E : β1 × β2 → Pd} {k : β1 × β2 → Option γ} {c : β1 → β2 → Prop} [∀ b1 b2, Decidable (c b1 b2)] (h2 : Bin2 X e a b r) (ha : PE X a (tE W F Γ Δ T k1 E1 Δ1)) (hb : ∀ b1, PE X b (tE W F Γ (Δ1 b1) (k1 b1) (fun b2 => grd (c b1 b2) (k (b1, b2))) (E2 b1) (Δ2 b1)))
    (hv : ∀ b1 b2 σ v w H Q, Ok F Γ (Δ2 b1 b2) σ H → c b1 b2 → (E1 b1).pr H v → (E2 b1 b2).pr H w → (∀ u, (E (b1, b2)).pr H u → Q u H) → r v w H Q) : PE X e (tE W F Γ Δ T k E fun b => Δ2 b.1 b.2) :=
  x2_core h2 ha hb fun σ H Q ⟨ok, g, e, q⟩ => ⟨ok, g, e, fun b1 b2 v w H2 kb f ok2 hv1 hv2 => hv b1 b2 σ v w H2 Q ok2 (grd_some kb).1 hv1 hv2 fun u hu => q (b1, b2) u H2 (grd_some kb).2 f ok2 hu⟩
theorem x2p {β3 : Type} {E : (β1 × β2) × β3 → Pd} {k : (β1 × β2) × β3 → Option γ} {m : β1 → β2 → Option β3} (h2 : Bin2 X e a b r) (ha : PE X a (tE W F Γ Δ T k1 E1 Δ1))
    (hb : ∀ b1, PE X b (tE W F Γ (Δ1 b1) (k1 b1) (fun b2 => (m b1 b2).bind fun b3 => k ((b1, b2), b3)) (E2 b1) (Δ2 b1)))
    (hv : ∀ b1 b2 b3 σ v w H Q, Ok F Γ (Δ2 b1 b2) σ H → m b1 b2 = some b3 → (E1 b1).pr H v → (E2 b1 b2).pr H w → (∀ u, (E ((b1, b2), b3)).pr H u → Q u H) → r v w H Q) : PE X e (tE W F Γ Δ T k E fun b => Δ2 b.1.1 b.1.2) :=
  x2_core h2 ha hb fun σ H Q ⟨ok, g, e, q⟩ => ⟨ok, g, e, fun b1 b2 v w H2 kb f ok2 hv1 hv2 => by
    obtain ⟨b3, e3, kb3⟩ := bind_some kb
    exact hv b1 b2 b3 σ v w H2 Q ok2 e3 hv1 hv2 fun u hu => q ((b1, b2), b3) u H2 kb3 f ok2 hu⟩
end
def Bin2T (X : Cx) (e a b : Expr) (r : R2) : Prop := ∀ ta tb, PE X a ta → PE X b tb → PT X e (tTest (tOp r ta tb))
theorem bt_cmp {op : CmpOp} {r : R2} {a b : Expr} {pos : Pos} (ho : OpR X (compareOp op) r) (hm : behindInMarks op b = false) : Bin2T X (.Compare a [op] [b] pos) a b r := fun _ _ ha hb => pt_cmpR ho ha hb hm
section
variable {e a b : Expr} {r : R2} {β1 β2 : Type} {T : Option γ} {k1 : β1 → Option γ} {k2 : β1 → β2 → Option γ} {E1 : β1 → Pd} {E2 : β1 → β2 → Pd} {Δ1 : β1 → Δs} {Δ2 : β1 → β2 → Δs}
theorem t2_core {t' : TT} (h2 : Bin2T X e a b r) (ha : PE X a (tE W F Γ Δ T k1 E1 Δ1)) (hb : ∀ b1, PE X b (tE W F Γ (Δ1 b1) (k1 b1) (k2 b1) (E2 b1) (Δ2 b1)))
    (hw : ∀ σ H Q, t' σ H Q → Ok F Γ Δ σ H ∧ ∃ g, T = some g ∧ ∀ b1 b2 v w H2, k2 b1 b2 = some g → St W H H2 → Ok F Γ (Δ2 b1 b2) σ H2 → (E1 b1).pr H2 v → (E2 b1 b2).pr H2 w → r v w H2 (fun x H' => ∃ k, x = .bl k ∧ Q k H')) : PT X e t' :=
  (h2 _ _ ha (pe_ex hb)).wk fun σ H Q h => by
    obtain ⟨ok, g, e, q⟩ := hw σ H Q h
    exact ⟨ok, g, e, fun b1 v H1 kb f1 ok1 hv => ⟨b1, ok1, g, kb, fun b2 w H2 kb2 f2 ok2 hw => q b1 b2 v w H2 kb2 (f1.trans f2) ok2 ((E1 b1).mono f2.fz hv) hw⟩⟩
theorem t2t {c : β1 × β2 → Bool} {k : β1 × β2 → Option γ} (h2 : Bin2T X e a b r) (ha : PE X a (tE W F Γ Δ T k1 E1 Δ1)) (hb : ∀ b1, PE X b (tE W F Γ (Δ1 b1) (k1 b1) (fun b2 => k (b1, b2)) (E2 b1) (Δ2 b1)))
    (hv : ∀ b1 b2 σ v w H Q, Ok F Γ (Δ2 b1 b2) σ H → (E1 b1).pr H v → (E2 b1 b2).pr H w → (∀ u, (pBl (c (b1, b2))).pr H u → Q u H) → r v w H Q) : PT X e (tTs W F Γ Δ T k c fun b => Δ2 b.1 b.2) :=
  t2_core h2 ha hb fun σ H Q ⟨ok, g, e, q⟩ => ⟨ok, g, e, fun b1 b2 v w H2 kb f ok2 hv1 hv2 => hv b1 b2 σ v w H2 _ ok2 hv1 hv2 fun u hu => ⟨c (b1, b2), hu, q (b1, b2) H2 kb f ok2⟩⟩
end
section
variable {a b : Expr} {pos : Pos} {β1 β2 : Type} {T : Option γ} {k1 : β1 → Option γ} {k : β1 × β2 → Option γ} {Δ1 : β1 → Δs} {Δ2 : β1 → β2 → Δs} {i : β1 → Int} {j : β1 → β2 → Int}
theorem x_add (ha : PE X a (tE W F Γ Δ T k1 (fun b => pInt (i b)) Δ1)) (hb : ∀ b1, PE X b (tE W F Γ (Δ1 b1) (k1 b1) (fun b2 => k (b1, b2)) (fun b => pInt (j b1 b)) (Δ2 b1))) :
    PE X (.BinOp a .Add b pos) (tE W F Γ Δ T k (fun b => pInt (i b.1 + j b.1 b.2)) fun b => Δ2 b.1 b.2) :=
  x2t (b_op op_add) ha hb fun b1 b2 _ v w H Q _ hv hw q => ⟨i b1, j b1 b2, hv, hw, q _ rfl⟩
theorem x_sub (ha : PE X a (tE W F Γ Δ T k1 (fun b => pInt (i b)) Δ1)) (hb : ∀ b1, PE X b (tE W F Γ (Δ1 b1) (k1 b1) (fun b2 => k (b1, b2)) (fun b => pInt (j b1 b)) (Δ2 b1))) :
    PE X (.BinOp a .Sub b pos) (tE W F Γ Δ T k (fun b => pInt (i b.1 - j b.1 b.2)) fun b => Δ2 b.1 b.2) :=
  x2t (b_op op_sub) ha hb fun b1 b2 _ v w H Q _ hv hw q => ⟨i b1, j b1 b2, hv, hw, q _ rfl⟩
def sm (i : Int) : Bool := decide (-(2 ^ 64) < i) && decide (i < 2 ^ 64)
theorem sm_ok {i : Int} (h : sm i = true) : -(2 ^ 64) < i ∧ i < 2 ^ 64 := by
  obtain ⟨a, b⟩ := Bool.and_eq_true_iff.mp h
  exact ⟨of_decide_eq_true a, of_decide_eq_true b⟩
theorem x_mul (ha : PE X a (tE W F Γ Δ T k1 (fun b => pInt (i b)) Δ1)) (hb : ∀ b1, PE X b (tE W F Γ (Δ1 b1) (k1 b1) (fun b2 => grd ((sm (i b1) || sm (j b1 b2)) = true) (k (b1, b2))) (fun b => pInt (j b1 b)) (Δ2 b1))) :
    PE X (.BinOp a .Mult b pos) (tE W F Γ Δ T k (fun b => pInt (i b.1 * j b.1 b.2)) fun b => Δ2 b.1 b.2) :=
  x2g (b_op op_mul) ha hb fun b1 b2 _ v w H Q _ c hv hw q => ⟨i b1, j b1 b2, hv, hw, by
    rcases Bool.or_eq_true_iff.mp c with h | h
    · exact .inl (sm_ok h)
    · exact .inr (sm_ok h), q _ rfl⟩
theorem x_mod (ha : PE X a (tE W F Γ Δ T k1 (fun b => pInt (i b)) Δ1)) (hb : ∀ b1, PE X b (tE W F Γ (Δ1 b1) (k1 b1) (fun b2 => grd (0 < j b1 b2) (k (b1, b2))) (fun b => pInt (j b1 b)) (Δ2 b1))) :
    PE X (.BinOp a .Mod b pos) (tE W F Γ Δ T k (fun b => pInt (i b.1 % j b.1 b.2)) fun b => Δ2 b.1 b.2) :=
  x2g (b_op op_mod) ha hb fun b1 b2 _ v w H Q _ c hv hw q => ⟨i b1, j b1 b2, hv, hw, c, q _ rfl⟩
def dv (j : Int) : Bool := decide (0 < j) && decide (j < 1073741824)
theorem x_fdiv (ha : PE X a (tE W F Γ Δ T k1 (fun b => pInt (i b)) Δ1)) (hb : ∀ b1, PE X b (tE W F Γ (Δ1 b1) (k1 b1) (fun b2 => grd (dv (j b1 b2) = true) (k (b1, b2))) (fun b => pInt (j b1 b)) (Δ2 b1))) :
    PE X (.BinOp a .FloorDiv b pos) (tE W F Γ Δ T k (fun b => pInt (i b.1 / j b.1 b.2)) fun b => Δ2 b.1 b.2) :=
  x2g (b_op op_fdiv) ha hb fun b1 b2 _ v w H Q _ c hv hw q => ⟨i b1, j b1 b2, hv, hw, by
    obtain ⟨h1, h2⟩ := Bool.and_eq_true_iff.mp c
    exact ⟨of_decide_eq_true h1, of_decide_eq_true h2⟩, q _ rfl⟩
theorem x_pow (ha : PE X a (tE W F Γ Δ T k1 (fun b => pInt (i b)) Δ1)) (hb : ∀ b1, PE X b (tE W F Γ (Δ1 b1) (k1 b1) (fun b2 => k (b1, b2)) (fun b => pInt (j b1 b)) (Δ2 b1))) (hc : ∀ b1 b2, 0 ≤ j b1 b2 ∧ j b1 b2 ≤ 1000000 ∧ (i b1).natAbs < 2 ^ 64) :
    PE X (.BinOp a .Pow b pos) (tE W F Γ Δ T k (fun b => pInt (i b.1 ^ (j b.1 b.2).toNat)) fun b => Δ2 b.1 b.2) :=
  x2t (b_op op_pow) ha hb fun b1 b2 _ v w H Q _ hv hw q => ⟨i b1, j b1 b2, hv, hw, hc b1 b2, q _ rfl⟩
theorem x_lt (ha : PE X a (tE W F Γ Δ T k1 (fun b => pInt (i b)) Δ1)) (hb : ∀ b1, PE X b (tE W F Γ (Δ1 b1) (k1 b1) (fun b2 => k (b1, b2)) (fun b => pInt (j b1 b)) (Δ2 b1))) :
    PE X (.Compare a [.Lt] [b] pos) (tE W F Γ Δ T k (fun b => pBl (decide (i b.1 < j b.1 b.2))) fun b => Δ2 b.1 b.2) :=
  x2t (b_cmp op_lt (nomark _)) ha hb fun b1 b2 _ v w H Q _ hv hw q => ⟨i b1, j b1 b2, hv, hw, q _ rfl⟩
theorem x_ge (ha : PE X a (tE W F Γ Δ T k1 (fun b => pInt (i b)) Δ1)) (hb : ∀ b1, PE X b (tE W F Γ (Δ1 b1) (k1 b1) (fun b2 => k (b1, b2)) (fun b => pInt (j b1 b)) (Δ2 b1))) :
    PE X (.Compare a [.GtE] [b] pos) (tE W F Γ Δ T k (fun b => pBl (decide (j b.1 b.2 ≤ i b.1))) fun b => Δ2 b.1 b.2) :=
  x2t (b_cmp op_ge (nomark _)) ha hb fun b1 b2 _ v w H Q _ hv hw q => ⟨i b1, j b1 b2, hv, hw, q _ rfl⟩
theorem x_eqI (ha : PE X a (tE W F Γ Δ T k1 (fun b => pInt (i b)) Δ1)) (hb : ∀ b1, PE X b (tE W F Γ (Δ1 b1) (k1 b1) (fun b2 => k (b1, b2)) (fun b => pInt (j b1 b)) (Δ2 b1))) :
    PE X (.Compare a [.Eq] [b] pos) (tE W F Γ Δ T k (fun b => pBl (decide (i b.1 = j b.1 b.2))) fun b => Δ2 b.1 b.2) :=
  x2t (b_cmp op_eq (nomark _)) ha hb fun b1 b2 _ v w H Q _ hv hw q => by
    cases hv; cases hw
    refine ⟨rfl, q _ ?_⟩
    show V.bl _ = V.bl _
    congr 1
    by_cases z : i b1 = j b1 b2
    · rw [z]; simp
    · rw [decide_eq_false z, decide_eq_false fun y => z (V.int.inj y)]
theorem x_neI (ha : PE X a (tE W F Γ Δ T k1 (fun b => pInt (i b)) Δ1)) (hb : ∀ b1, PE X b (tE W F Γ (Δ1 b1) (k1 b1) (fun b2 => k (b1, b2)) (fun b => pInt (j b1 b)) (Δ2 b1))) :
    PE X (.Compare a [.NotEq] [b] pos) (tE W F Γ Δ T k (fun b => pBl (!decide (i b.1 = j b.1 b.2))) fun b => Δ2 b.1 b.2) :=
  x2t (b_cmp op_ne (nomark _)) ha hb fun b1 b2 _ v w H Q _ hv hw q => by
    cases hv; cases hw
    refine ⟨rfl, q _ ?_⟩
    show V.bl _ = V.bl _
    congr 1
    by_cases z : i b1 = j b1 b2
    · rw [z]; simp
    · rw [decide_eq_false z, decide_eq_false fun y => z (V.int.inj y)]
theorem t_lt (ha : PE X a (tE W F Γ Δ T k1 (fun b => pInt (i b)) Δ1)) (hb : ∀ b1, PE X b (tE W F Γ (Δ1 b1) (k1 b1) (fun b2 => k (b1, b2)) (fun b => pInt (j b1 b)) (Δ2 b1))) :
    PT X (.Compare a [.Lt] [b] pos) (tTs W F Γ Δ T k (fun b => decide (i b.1 < j b.1 b.2)) fun b => Δ2 b.1 b.2) :=
  t2t (bt_cmp op_lt (nomark _)) ha hb fun b1 b2 _ v w H Q _ hv hw q => ⟨i b1, j b1 b2, hv, hw, q _ rfl⟩
theorem t_gt (ha : PE X a (tE W F Γ Δ T k1 (fun b => pInt (i b)) Δ1)) (hb : ∀ b1, PE X b (tE W F Γ (Δ1 b1) (k1 b1) (fun b2 => k (b1, b2)) (fun b => pInt (j b1 b)) (Δ2 b1))) :
    PT X (.Compare a [.Gt] [b] pos) (tTs W F Γ Δ T k (fun b => decide (j b.1 b.2 < i b.1)) fun b => Δ2 b.1 b.2) :=
  t2t (bt_cmp op_gt (nomark _)) ha hb fun b1 b2 _ v w H Q _ hv hw q => ⟨i b1, j b1 b2, hv, hw, q _ rfl⟩
theorem t_eqI (ha : PE X a (tE W F Γ Δ T k1 (fun b => pInt (i b)) Δ1)) (hb : ∀ b1, PE X b (tE W F Γ (Δ1 b1) (k1 b1) (fun b2 => k (b1, b2)) (fun b => pInt (j b1 b)) (Δ2 b1))) :
    PT X (.Compare a [.Eq] [b] pos) (tTs W F Γ Δ T k (fun b => decide (i b.1 = j b.1 b.2)) fun b => Δ2 b.1 b.2) :=
  t2t (bt_cmp op_eq (nomark _)) ha hb fun b1 b2 _ v w H Q _ hv hw q => by
    cases hv; cases hw
    refine ⟨rfl, q _ ?_⟩
    show V.bl _ = V.bl _
    congr 1
    by_cases z : i b1 = j b1 b2
    · rw [z]; simp
    · rw [decide_eq_false z, decide_eq_false fun y => z (V.int.inj y)]
theorem t_neI (ha : PE X a (tE W F Γ Δ T k1 (fun b => pInt (i b)) Δ1)) (hb : ∀ b1, PE X b (tE W F Γ (Δ1 b1) (k1 b1) (fun b2 => k (b1, b2)) (fun b => pInt (j b1 b)) (Δ2 b1))) :
    PT X (.Compare a [.NotEq] [b] pos) (tTs W F Γ Δ T k (fun b => !decide (i b.1 = j b.1 b.2)) fun b => Δ2 b.1 b.2) :=
  t2t (bt_cmp op_ne (nomark _)) ha hb fun b1 b2 _ v w H Q _ hv hw q => by
    cases hv; cases hw
    refine ⟨rfl, q _ ?_⟩
    show V.bl _ = V.bl _
    congr 1
    by_cases z : i b1 = j b1 b2
    · rw [z]; simp
    · rw [decide_eq_false z, decide_eq_false fun y => z (V.int.inj y)]
end
end
end L3
end
section
set_option maxHeartbeats 4000000
namespace L3
open PySem PySem.Spec PyProof.Rows L2
theorem flat_sub : ∀ {Δ' Δ : List Cel}, Δ'.Sublist Δ → (cellsOf Δ').Sublist (cellsOf Δ)
  | _, _, .slnil => List.Sublist.refl _
  | _, _, .cons a s => by
    rw [cellsOf_cons]
    exact (flat_sub s).trans (List.sublist_append_right _ _)
  | _, _, .cons₂ a s => by
    rw [cellsOf_cons, cellsOf_cons]
    exact (List.Sublist.refl _).append (flat_sub s)
theorem HkO.less {F : Fm} {Δ Δ' : List Cel} {H : Hp} (k : HkO F Δ H) (h : Δ'.Sublist Δ) : HkO F Δ' H :=
  ⟨k.base, fun c hc => k.del c (h.subset hc), k.nod.sublist (flat_sub h), fun c hc => k.own c (h.subset hc), k.mem⟩
section
variable {F : Fm} {Γ : Gm} {Δ : Δs} {σ : SS} {H : Hp} {j : Nat} {c : Cell}
theorem OkN.absorb {W : Bool} {H0 : Hp} {v : V} {d : Od} (k : OkN W F Γ H0 v d Δ σ H) (hj : Δ[j]? = some c) : ∃ G Gn, c.d.pr G H c.v ∧ d.pr Gn H v ∧ (G ++ Gn).Nodup ∧ ∀ H' d' G', (∀ a o, a ∉ G → a ∉ Gn → H a = some o → H' a = some o) → (∀ a, a ∈ G ∨ a ∈ Gn → ∃ o, H' a = some o) → G'.Nodup → (∀ a ∈ G', (a ∈ G ∨ a ∈ Gn) ∨ H a = none) → d'.pr G' H' c.v →
    Ok F Γ (Δ.set j { c with d := d' }) σ H' ∧ Fzs H H' ∧ ∀ a o, H a = some o → ∃ u, H' a = some u := by
  obtain ⟨Δ0, Gn, e, k, nw, n⟩ := k
  subst e
  obtain ⟨A, x, B, e0, el, ex⟩ := map_at hj
  subst e0
  subst ex
  have k1 : HkO F (x :: ⟨Gn, v, d, none⟩ :: (A ++ B)) H := k.perm ((mid_perm (x := x)).cons _ |>.trans (.swap _ _ _))
  have nd1 := k1.ndup
  have nd2 := (k1.less (.cons _ (List.Sublist.refl _))).ndup
  have nod : (x.G ++ Gn).Nodup := List.nodup_append.mpr ⟨nd1.1, nd2.1, fun a ha b hb e => by
    subst e
    exact nd1.2.2 a ha (by rw [cellsOf_cons]; exact List.mem_append_left _ hb)⟩
  refine ⟨x.G, Gn, k1.del x List.mem_cons_self, k1.del ⟨Gn, v, d, none⟩ (List.mem_cons_of_mem _ List.mem_cons_self), nod, fun H' d' G' kp dm nd sb new => ?_⟩
  have fz : Fzs H H' := fun a o p e => by
    have hn : ∀ y ∈ (x :: ⟨Gn, v, d, none⟩ :: (A ++ B)), a ∉ y.G := fun y hy ha => by
      obtain ⟨u, eu, nu⟩ := y.d.cellsN (k1.del y hy) a ha
      rw [e] at eu
      cases eu
      exact nu p
    exact kp a o (hn x List.mem_cons_self) (hn ⟨Gn, v, d, none⟩ (List.mem_cons_of_mem _ List.mem_cons_self)) e
  have dom : ∀ a o, H a = some o → ∃ u, H' a = some u := fun a o e => by
    by_cases h1 : a ∈ x.G
    · exact dm a (.inl h1)
    · by_cases h2 : a ∈ Gn
      · exact dm a (.inr h2)
      · exact ⟨o, kp a o h1 h2 e⟩
  have r : HkO F (A ++ B) H' := by
    refine ⟨fun a o e m => ?_, fun y hy => ?_, nd2.2.1, fun y hy => k1.own y (List.mem_cons_of_mem _ (List.mem_cons_of_mem _ hy)), fun m hm a ha => ?_⟩
    · have hno : ∀ y ∈ (x :: ⟨Gn, v, d, none⟩ :: (A ++ B)), a ∉ y.G := fun y hy ha => by
        rcases k1.own y hy a ha with z | ⟨i, w, _, hw, z⟩
        · rw [e] at z; cases z
        · exact m w (List.mem_of_getElem? hw) z
      exact kp a o (hno x List.mem_cons_self) (hno ⟨Gn, v, d, none⟩ (List.mem_cons_of_mem _ List.mem_cons_self)) (k1.base a o e m)
    · refine y.d.frame (k1.del y (List.mem_cons_of_mem _ (List.mem_cons_of_mem _ hy))) (fun a ha o q => kp a o (fun hc => ?_) (fun hc => ?_) q) fz
      · exact nd1.2.2 a hc (by rw [cellsOf_cons]; exact List.mem_append_right _ (mem_cellsOf hy ha))
      · exact nd2.2.2 a hc (mem_cellsOf hy ha)
    · obtain ⟨o, e⟩ := k1.mem m hm a ha
      exact dom a o e
  have fin : HkO F (⟨G', x.v, d', x.prm⟩ :: (A ++ B)) H' := r.cons (c := ⟨G', x.v, d', x.prm⟩) nd (fun a ha hb => by
      rcases sb a ha with (h | h) | h
      · exact nd1.2.2 a h (by rw [cellsOf_cons]; exact List.mem_append_right _ hb)
      · exact nd2.2.2 a h hb
      · obtain ⟨o, e, _⟩ := k1.isC (a := a) (by rw [cellsOf_cons, cellsOf_cons]; exact List.mem_append_right _ (List.mem_append_right _ hb))
        rw [h] at e; cases e) new fun a ha => by
      rcases sb a ha with (h | h) | h
      · exact k1.own x List.mem_cons_self a h
      · rcases k1.own ⟨Gn, v, d, none⟩ (List.mem_cons_of_mem _ List.mem_cons_self) a h with z | ⟨i, m, z, _⟩
        · exact .inl z
        · cases z
      · exact .inl (k1.fresh0 h)
  refine ⟨⟨⟨A ++ ⟨G', x.v, d', x.prm⟩ :: B, ?_, fin.perm mid_perm.symm⟩, n.mono fz⟩, fz, dom⟩
  rw [← el]
  exact map_set
end
theorem inv_lkX {X : Cx} {pins : List (Addr × Obj)} {σ : SS} {s : Shared} {Φ : Hp → Prop} {H : Hp} (I : Inv X pins σ H s) (h : tLkX Φ H) : ∃ H', Inv X pins σ H' s ∧ Φ H' := by
  obtain ⟨G, h⟩ := h
  exact inv_lk I h
theorem map_sub : ∀ {Δ0 : List Cel} {Δ' : Δs}, Δ'.Sublist (Δ0.map Cel.fg) → ∃ Δ1 : List Cel, Δ1.Sublist Δ0 ∧ Δ1.map Cel.fg = Δ'
  | [], _, h => ⟨[], .slnil, by
    have := List.sublist_nil.mp h
    rw [this]; rfl⟩
  | x :: Δ0, Δ', h => by
    rw [List.map_cons] at h
    cases h with
    | cons _ h =>
      obtain ⟨Δ1, s, e⟩ := map_sub h
      exact ⟨Δ1, .cons _ s, e⟩
    | cons_cons _ h =>
      obtain ⟨Δ1, s, e⟩ := map_sub h
      exact ⟨x :: Δ1, .cons₂ _ s, by rw [List.map_cons, e]⟩
theorem Hk.less {F : Fm} {Δ Δ' : Δs} {H : Hp} (k : Hk F Δ H) (h : Δ'.Sublist Δ) : Hk F Δ' H := by
  obtain ⟨Δ0, e, k⟩ := k
  subst e
  obtain ⟨Δ1, s, e⟩ := map_sub h
  exact ⟨Δ1, e, k.less s⟩
theorem Ok.less {F : Fm} {Γ : Gm} {Δ Δ' : Δs} {σ : SS} {H : Hp} (k : Ok F Γ Δ σ H) (h : Δ'.Sublist Δ) : Ok F Γ Δ' σ H := ⟨k.hk.less h, k.nm⟩
theorem OkN.less {W : Bool} {F : Fm} {Γ : Gm} {Δ Δ' : Δs} {σ : SS} {H0 H : Hp} {v : V} {d : Od} (k : OkN W F Γ H0 v d Δ σ H) (h : Δ'.Sublist Δ) : OkN W F Γ H0 v d Δ' σ H := by
  obtain ⟨Δ0, G, e, k, nw, n⟩ := k
  subst e
  obtain ⟨Δ1, s, e⟩ := map_sub h
  exact ⟨Δ1, G, e, k.less (s.cons₂ _), nw, n⟩
theorem SubG.get : ∀ {g' g : Gm} {i : Nat} {p : Pd}, SubG g' g → g'[i]? = some (some p) → g[i]? = some (some p)
  | [], [], _, _, _, e => by simp at e
  | none :: g', _ :: g, 0, p, h, e => by simp at e
  | none :: g', _ :: g, i + 1, p, h, e => SubG.get (g' := g') (g := g) (i := i) h (by simpa using e)
  | some a :: g', some b :: g, 0, p, h, e => by
    have q : a = p := by simpa using e
    rw [← q, h.1]
    rfl
  | some a :: g', some b :: g, i + 1, p, h, e => SubG.get (g' := g') (g := g) (i := i) h.2 (by simpa using e)
  | [], _ :: _, _, _, h, _ => h.elim
  | some _ :: _, [], _, _, h, _ => h.elim
  | none :: _, [], _, _, h, _ => h.elim
  | some _ :: _, none :: _, _, _, h, _ => h.elim
theorem Ok.wk {F : Fm} {Γ Γ' : Gm} {Δ Δ' : Δs} {σ : SS} {H : Hp} (k : Ok F Γ Δ σ H) (g : SubG Γ' Γ) (h : Δ'.Sublist Δ) : Ok F Γ' Δ' σ H :=
  ⟨k.hk.less h, ⟨k.len.trans g.len.symm, fun i p e => k.gam i p (g.get e)⟩⟩
end L3
end
section
set_option maxHeartbeats 4000000
namespace L3
open PySem PySem.Spec PyProof.Rows L2
section
variable {X : Cx} {W : Bool} {F : Fm} {Γ : Gm} {Δ : Δs} {γ : Type}
theorem x_frz {β : Type} {e : Expr} {T : Option γ} {k : β → Option γ} {D : β → Od} {Δ' : β → Δs} (he : PE X e (tO W F Γ Δ T k D Δ')) : PE X e (tE W F Γ Δ T k (fun b => (D b).pd) Δ') :=
  ⟨fun pins s σ H Q I ⟨ok, g, e, q⟩ => thn (he.run pins s σ H (fun v H' => ∃ b, k b = some g ∧ St W H H' ∧ OkN W F Γ H v (D b) (Δ' b) σ H') I ⟨ok, g, e, fun b v H' kb f ok' => ⟨b, kb, f, ok'⟩⟩) fun u s1 ⟨v, H1, I1, r1, b, kb, f, ok1⟩ => by
    obtain ⟨H2, I2, f2, ok2, p2⟩ := inv_lkX (Φ := fun H2 => St W H H2 ∧ Ok F Γ (Δ' b) σ H2 ∧ (D b).pd.pr H2 v) I1 (ok1.frz f fun H' f h p => ⟨f, h, p⟩)
    exact ⟨v, H2, I2, r1, q b v H2 kb f2 ok2 p2⟩⟩
def Un1 (X : Cx) (e a : Expr) (r : V → Hp → VK → Prop) : Prop := ∀ ta, PE X a ta → PE X e (tUn r ta)
theorem u_un {op : UnaryOp} {r : V → Hp → VK → Prop} {a : Expr} {pos : Pos} (ho : UnR X (unaryOp op) r) : Un1 X (.UnaryOp op a pos) a r := fun _ ha => pe_un ho ha
theorem u_callB {id : String} {r : List V → Hp → VK → Prop} {x : Str} {a : Expr} {p pos : Pos} (hc : CallR X (.builtin id) r) (hg : Gl X x) (hm : X.mg x = none) (hv : bootBuiltins x = some (.builtin id)) (hn : x ≠ "__name__" := by decide) (hdb : (x == ("__debug__" : Str)) = false := by decide)
    (hs : starEach [a] X.env = (false, eval a X.env) :: starEach [] X.env := by rfl) : Un1 X (.Call (.Name x p) [a] [] pos) a (fun v => r [v]) := fun ta ha => (pe_callB hc hg hm hv (pa_cons ha pa_nil hs) hn hdb hs).wk fun σ H Q h => h
theorem u_callTy {id : String} {r : List V → Hp → VK → Prop} {x : Str} {a : Expr} {p pos : Pos} (hc : CallR X (.type id) r) (hg : Gl X x) (hm : X.mg x = none) (hv : bootBuiltins x = some (.type id)) (hn : x ≠ "__name__" := by decide) (hdb : (x == ("__debug__" : Str)) = false := by decide)
    (hs : starEach [a] X.env = (false, eval a X.env) :: starEach [] X.env := by rfl) : Un1 X (.Call (.Name x p) [a] [] pos) a (fun v => r [v]) := fun ta ha => (pe_callTy hc hg hm hv (pa_cons ha pa_nil hs) hn hdb hs).wk fun σ H Q h => h
theorem b_callB {id : String} {r : List V → Hp → VK → Prop} {x : Str} {a b : Expr} {p pos : Pos} (hc : CallR X (.builtin id) r) (hg : Gl X x) (hm : X.mg x = none) (hv : bootBuiltins x = some (.builtin id)) (hn : x ≠ "__name__" := by decide) (hdb : (x == ("__debug__" : Str)) = false := by decide)
    (hs : starEach [a, b] X.env = (false, eval a X.env) :: starEach [b] X.env := by rfl) (hs2 : starEach [b] X.env = (false, eval b X.env) :: starEach [] X.env := by rfl) (hpl : (backTo pos (starEach [b] X.env)).any (·.1) = false := by rfl) : Bin2 X (.Call (.Name x p) [a, b] [] pos) a b (fun v w => r [v, w]) := fun ta tb ha hb => (pe_callB hc hg hm hv (pa_cons ha (pa_cons hb pa_nil hs2) hs) hn hdb hs hpl).wk fun σ H Q h => h
section
variable {e a : Expr} {r : V → Hp → VK → Prop} {β : Type} {T : Option γ} {E1 : β → Pd} {Δ1 : β → Δs}
theorem x1t {k : β → Option γ} {E : β → Pd} (h1 : Un1 X e a r) (ha : PE X a (tE W F Γ Δ T k E1 Δ1)) (hv : ∀ b σ v H Q, Ok F Γ (Δ1 b) σ H → (E1 b).pr H v → (∀ u, (E b).pr H u → Q u H) → r v H Q) : PE X e (tE W F Γ Δ T k E Δ1) :=
  (h1 _ ha).wk fun σ H Q ⟨ok, g, e, q⟩ => ⟨ok, g, e, fun b v H' kb f ok' hp => hv b σ v H' Q ok' hp fun u hu => q b u H' kb f ok' hu⟩
theorem Ok.newL {σ : SS} {H : Hp} {p : Addr} {α : Type} {E : α → Pd} {xs : List α} {vs : List V} (ok : Ok F Γ Δ σ H) (hp : H p = none) (z : xs.length ≤ sizeLine) (q : Paired (fun x u => (E x).pr H u) xs vs) : OkN W F Γ H (.ref p) (oL E xs) Δ σ (upd H p (.lst vs)) ∧ Gr H (upd H p (.lst vs)) := by
  have g : Gr H (upd H p (.lst vs)) := Gr.new hp
  exact ⟨ok.add g (List.nodup_cons.mpr ⟨List.not_mem_nil, List.nodup_nil⟩) (fun a ha => by rw [List.mem_singleton.mp ha]; exact hp) ⟨p, vs, rfl, rfl, upd_same, z, paired_mono (fun x _ => (E x).mono g.fzs) q⟩, g⟩
theorem x1n {k : β → Option γ} {α : Type} {Ee : α → Pd} {ys : β → List α} (h1 : Un1 X e a r) (ha : PE X a (tE W F Γ Δ T k E1 Δ1))
    (hv : ∀ b σ v H Q, Ok F Γ (Δ1 b) σ H → (E1 b).pr H v → (∀ p vs, H p = none → (ys b).length ≤ sizeLine → Paired (fun x u => (Ee x).pr H u) (ys b) vs → Q (.ref p) (upd H p (.lst vs))) → r v H Q) : PE X e (tO W F Γ Δ T k (fun b => oL Ee (ys b)) Δ1) :=
  (h1 _ ha).wk fun σ H Q ⟨ok, g, e, q⟩ => ⟨ok, g, e, fun b v H' kb f ok' hp => hv b σ v H' Q ok' hp fun p vs np z pr => by
    obtain ⟨o2, f2⟩ := ok'.newL np z pr
    exact q b _ _ kb (f.trans f2.st) (o2.since f)⟩
end
theorem a_nil {k : Unit → Option γ} : PA X [] (tAr W F Γ Δ (k ()) k (fun _ => []) fun _ => Δ) := pa_nil.wk fun σ H Q ⟨ok, g, e, q⟩ => q () [] H e (St.refl H) ok .nil
theorem a_cons {a : Expr} {es : List Expr} {β1 β2 : Type} {T : Option γ} {k1 : β1 → Option γ} {k : β1 × β2 → Option γ} {E1 : β1 → Pd} {Es : β1 → β2 → List Pd} {Δ1 : β1 → Δs} {Δ2 : β1 → β2 → Δs}
    (ha : PE X a (tE W F Γ Δ T k1 E1 Δ1)) (hr : ∀ b1, PA X es (tAr W F Γ (Δ1 b1) (k1 b1) (fun b2 => k (b1, b2)) (Es b1) (Δ2 b1))) (hs : starEach (a :: es) X.env = (false, eval a X.env) :: starEach es X.env := by rfl) :
    PA X (a :: es) (tAr W F Γ Δ T k (fun b => E1 b.1 :: Es b.1 b.2) fun b => Δ2 b.1 b.2) :=
  (pa_cons ha (pa_ex hr) hs).wk fun σ H Q ⟨ok, g, e, q⟩ => ⟨ok, g, e, fun b1 v H1 kb f1 ok1 hv => ⟨b1, ok1, g, kb, fun b2 vs H2 kb2 f2 ok2 hvs => q (b1, b2) (v :: vs) H2 kb2 (f1.trans f2) ok2 (.cons ((E1 b1).mono f2.fz hv) hvs)⟩⟩
theorem paired_len {α β : Type} {P : α → β → Prop} {l₁ : List α} {l₂ : List β} (h : Paired P l₁ l₂) : l₁.length = l₂.length := Paired.length h
theorem paired_map {α : Type} {E : α → Pd} {H : Hp} : ∀ {xs : List α} {vs : List V}, Paired (fun p v => Pd.pr p H v) (xs.map E) vs → Paired (fun x v => (E x).pr H v) xs vs
  | [], _, h => by cases h; exact .nil
  | x :: xs, _, h => by
    cases h with
    | cons r t => exact .cons r (paired_map t)
theorem x_disp {es : List Expr} {pos : Pos} {β α : Type} {T : Option γ} {k : β → Option γ} {Es : β → List Pd} {Δ1 : β → Δs} (Ee : α → Pd) (xs : β → List α) (ha : PA X es (tAr W F Γ Δ T k Es Δ1)) (he : ∀ b, Es b = (xs b).map Ee) (hz : ∀ b, (xs b).length ≤ 1000) :
    PE X (.List es pos) (tO W F Γ Δ T k (fun b => oL Ee (xs b)) Δ1) :=
  (pe_lst ha).wk fun σ H Q ⟨ok, g, e, q⟩ => ⟨ok, g, e, fun b vs H' kb f ok' hp => by
    rw [he b] at hp
    have hp2 := paired_map hp
    have z : (xs b).length ≤ sizeLine := Nat.le_trans (hz b) (by decide)
    refine ⟨by rw [← paired_len hp2]; exact z, fun p np => ?_⟩
    obtain ⟨o2, f2⟩ := ok'.newL np z hp2
    exact q b _ _ kb (f.trans f2.st) (o2.since f)⟩
theorem x_nil {pos : Pos} {α : Type} {k : Unit → Option γ} (Ee : α → Pd) : PE X (.List [] pos) (tO W F Γ Δ (k ()) k (fun _ => oL Ee []) fun _ => Δ) := x_disp Ee (fun _ => []) a_nil (fun _ => rfl) fun _ => Nat.zero_le _
theorem paired2 {α β : Type} {P : α → β → Prop} {p q : α} {vs : List β} (h : Paired P [p, q] vs) : ∃ u w, vs = [u, w] ∧ P p u ∧ P q w := by
  cases h with
  | cons r1 t => cases t with
    | cons r2 t => cases t with
      | nil => exact ⟨_, _, rfl, r1, r2⟩
theorem x_tup2 {a b : Expr} {x1} {pos : Pos} {α1 α2 β : Type} {T : Option γ} {k : β → Option γ} {Δ1 : β → Δs} {p q : β → Pd} (ha : PA X [a, b] (tAr W F Γ Δ T k (fun b => [p b, q b]) Δ1)) (E1 : α1 → Pd) (E2 : α2 → Pd) (x : β → α1) (y : β → α2) (h1 : ∀ b, p b = E1 (x b) := by exact fun _ => rfl) (h2 : ∀ b, q b = E2 (y b) := by exact fun _ => rfl) :
    PE X (.Tuple [a, b] x1 pos) (tE W F Γ Δ T k (fun b => pT2 E1 E2 (x b, y b)) Δ1) :=
  (pe_tup ha).wk fun σ H Q ⟨ok, g, e, w⟩ => ⟨ok, g, e, fun b vs H' kb f ok' hp => by
    have hp : Paired (fun p v => Pd.pr p H' v) [p b, q b] vs := hp
    rw [h1 b, h2 b] at hp
    obtain ⟨u1, u2, e, r1, r2⟩ := paired2 hp
    subst e
    refine ⟨by show 2 ≤ sizeLine; decide, fun t nt => ?_⟩
    have g' : Gr H' (upd H' t (.tup [u1, u2])) := Gr.new nt
    exact w b _ _ kb (f.trans g'.st) (ok'.gr g') ⟨t, _, _, rfl, upd_same, (E1 _).mono g'.fzs r1, (E2 _).mono g'.fzs r2⟩⟩
variable {γ : Type} {N : Fn γ} {rest : List Stmt}
theorem s_asg {i : Nat} {x : Str} {e : Expr} {pos pos' : Pos} {β : Type} {T : Option γ} {k : β → Option γ} {E : β → Pd} {Δ' : β → Δs} (nd : X.N.Nodup) (he : PE X e (tE true F Γ Δ T k E Δ'))
    (hr : ∀ b, PSs X rest (tS F (Γ.set i (some (E b))) (Δ' b) N (k b))) (hi : X.N[i]? = some x := by rfl) (hx : Loc X.env.scope x := by first | exact .inl rfl | exact .inr rfl)
    (hs : swapsWith e (some (.Name x pos')) pos.line X.env = pure false := by rfl) (hf : X.fn x = true ∨ X.env.scope.names.lookup x = some .local := by first | exact .inl rfl | exact .inr rfl | assumption) :
    PSs X (.Assign [.Name x pos'] e pos :: rest) (tS F Γ Δ N T) :=
  (pss_cons (ps_set nd hi hx he hs hf) (pss_ex hr)).wk fun D σ H ⟨ok, g, e, f⟩ => ⟨ok, g, e, fun b v H' kb fz ok' hv => ⟨b, ok'.set hv, g, kb, N.mono f fz.fz⟩⟩
theorem s_let {i : Nat} {x : Str} {e : Expr} {pos pos' : Pos} {β α : Type} {T : Option γ} {Δ' : β → Δs} {val : β → α} {k2 : β → α → Option γ} (E0 : α → Pd) (nd : X.N.Nodup) (he : PE X e (tE true F Γ Δ T (fun b => (some (val b)).bind (k2 b)) (fun b => E0 (val b)) Δ'))
    (hr : ∀ b a, PSs X rest (tS F (Γ.set i (some (E0 a))) (Δ' b) N (k2 b a))) (hi : X.N[i]? = some x := by rfl) (hx : Loc X.env.scope x := by first | exact .inl rfl | exact .inr rfl)
    (hs : swapsWith e (some (.Name x pos')) pos.line X.env = pure false := by rfl) (hf : X.fn x = true ∨ X.env.scope.names.lookup x = some .local := by first | exact .inl rfl | exact .inr rfl | assumption) :
    PSs X (.Assign [.Name x pos'] e pos :: rest) (tS F Γ Δ N T) :=
  s_asg nd he (fun b => hr b (val b)) hi hx hs hf
theorem s_letO {i : Nat} {x : Str} {e : Expr} {pos pos' : Pos} {β α : Type} {T : Option γ} {Δ' : β → Δs} {val : β → α} {k2 : β → α → Option γ} (D0 : α → Od) (nd : X.N.Nodup) (he : PE X e (tO true F Γ Δ T (fun b => (some (val b)).bind (k2 b)) (fun b => D0 (val b)) Δ'))
    (hr : ∀ b a v, PSs X rest (tS F (Γ.set i (some (pV v))) (⟨v, D0 a, none⟩ :: Δ' b) N (k2 b a))) (hi : X.N[i]? = some x := by rfl) (hx : Loc X.env.scope x := by first | exact .inl rfl | exact .inr rfl)
    (hs : swapsWith e (some (.Name x pos')) pos.line X.env = pure false := by rfl) (hf : X.fn x = true ∨ X.env.scope.names.lookup x = some .local := by first | exact .inl rfl | exact .inr rfl | assumption) :
    PSs X (.Assign [.Name x pos'] e pos :: rest) (tS F Γ Δ N T) :=
  (pss_cons (ps_set nd hi hx he hs hf) (pss_ex fun b => pss_ex fun v => hr b (val b) v)).wk fun D σ H ⟨ok, g, e, f⟩ => ⟨ok, g, e, fun b v H' kb fz ok' => ⟨b, v, ok'.ok.set rfl, g, kb, N.mono f fz.fz⟩⟩
theorem s_is {st : List Stmt} {T T' : Option γ} (hr : PSs X st (tS F Γ Δ N T')) (e : T = T') : PSs X st (tS F Γ Δ N T) := by rw [e]; exact hr
theorem Ok.frzS {σ : SS} {H : Hp} {i j : Nat} {c : Cell} (k : Ok F Γ Δ σ H) (hj : Δ[j]? = some c) (hi : Γ[i]? = some (some (pV c.v))) {Φ : Hp → Prop} (q : ∀ H', St true H H' → Ok F (Γ.set i (some c.d.pd)) (Δ.eraseIdx j) σ H' → Φ H') : tLkX Φ H :=
  k.frz hj fun H' f ok' p => q H' f (by
    obtain ⟨v, hs, hv⟩ := k.gam i _ hi
    have hv2 : v = c.v := hv
    subst hv2
    refine ⟨ok'.hk, by rw [List.length_set]; exact ok'.len, fun m p' e => ?_⟩
    by_cases h : m = i
    · subst h
      rw [List.getElem?_set_self (List.getElem?_eq_some_iff.mp hi).1] at e
      cases e
      exact ⟨_, hs, p⟩
    · rw [List.getElem?_set_ne (fun z => h z.symm)] at e
      exact ok'.gam m p' e)
theorem s_frz {st : List Stmt} {i : Nat} {T : Option γ} {c : Cell} (j : Nat) (hr : PSs X st (tS F (Γ.set i (some c.d.pd)) (Δ.eraseIdx j) N T)) (hj : Δ[j]? = some c := by rfl) (hi : Γ[i]? = some (some (pV c.v)) := by rfl) : PSs X st (tS F Γ Δ N T) :=
  ⟨fun pins s σ H D I ⟨ok, g, e, f⟩ => by
    obtain ⟨H2, I2, ok2⟩ := inv_lkX (Φ := fun H2 => Fzs H H2 ∧ Ok F (Γ.set i (some c.d.pd)) (Δ.eraseIdx j) σ H2) I (ok.frzS hj hi fun H' f h => ⟨f.fz, h⟩)
    exact hr.run pins s σ H2 D I2 ⟨ok2.2, g, e, N.mono f ok2.1⟩⟩
theorem s_expr {e : Expr} {pos : Pos} {β : Type} {T : Option γ} {k : β → Option γ} {E : β → Pd} {Δ' : β → Δs} (he : PE X e (tE true F Γ Δ T k E Δ')) (hr : ∀ b, PSs X rest (tS F Γ (Δ' b) N (k b))) (hs : swapsWith e none pos.line X.env = pure false := by rfl) :
    PSs X (.Expr e pos :: rest) (tS F Γ Δ N T) :=
  (pss_cons (ps_expr he hs) (pss_ex hr)).wk fun D σ H ⟨ok, g, e, f⟩ => ⟨ok, g, e, fun b v H' kb fz ok' _ => ⟨b, ok', g, kb, N.mono f fz.fz⟩⟩
abbrev Rt (ρ : Type) := ρ → VK → Prop
def fF {ρ : Type} (R : Rt ρ) : Fn ρ := ⟨fun _ r D => R r D.rt, fun h _ => h⟩
def RF {ρ : Type} (F : Fm) (P : ρ → Δs) (Rp : ρ → Pd) : Rt ρ := fun r rt => ∀ v H', Hk F (P r) H' → (Rp r).pr H' v → rt v H'
def RO {ρ : Type} (F : Fm) (P : ρ → Δs) (Ro : ρ → Od) : Rt ρ := fun r rt => ∀ v H', Hk F (⟨v, Ro r, none⟩ :: P r) H' → rt v H'
theorem s_ret {e : Expr} {pos : Pos} {β ρ : Type} {T : Option γ} {Δ' : β → Δs} {P : ρ → Δs} {Rp : ρ → Pd} {ι : ρ → γ} {rv : β → ρ} (hN : ∀ H r D, N.fin H (ι r) D → RF F P Rp r D.rt) (he : PE X e (tE true F Γ Δ T (fun b => some (ι (rv b))) (fun b => Rp (rv b)) Δ'))
    (hP : ∀ b, (P (rv b)).Sublist (Δ' b)) : PSs X [.Return (some e) pos] (tS F Γ Δ N T) :=
  (pss_one (ps_ret he)).wk fun D σ H ⟨ok, g, e, f⟩ => ⟨ok, g, e, fun b v H' kb fz ok' hv => by
    have eg : g = ι (rv b) := (Option.some.inj kb).symm
    rw [eg] at f
    exact hN _ _ D f v H' (ok'.hk.less (hP b)) hv⟩
theorem s_retO {e : Expr} {pos : Pos} {β ρ : Type} {T : Option γ} {Δ' : β → Δs} {P : ρ → Δs} {Ro : ρ → Od} {ι : ρ → γ} {rv : β → ρ} (hN : ∀ H r D, N.fin H (ι r) D → RO F P Ro r D.rt) (he : PE X e (tO true F Γ Δ T (fun b => some (ι (rv b))) (fun b => Ro (rv b)) Δ'))
    (hP : ∀ b, (P (rv b)).Sublist (Δ' b)) : PSs X [.Return (some e) pos] (tS F Γ Δ N T) :=
  (pss_one (ps_ret he)).wk fun D σ H ⟨ok, g, e, f⟩ => ⟨ok, g, e, fun b v H' kb fz ok' => by
    have eg : g = ι (rv b) := (Option.some.inj kb).symm
    rw [eg] at f
    exact hN _ _ D f v H' (ok'.ok.hk.less ((hP b).cons₂ _))⟩
end
end L3
end
section
set_option maxHeartbeats 4000000
set_option autoImplicit true
namespace L3
open PySem PySem.Spec PyProof.Rows L2
section
variable {X : Cx} {W : Bool} {F : Fm} {Γ : Gm} {Δ : Δs} {γ : Type}
theorem x_tot {β : Type} {e : Expr} {T : Option γ} {E : β → Pd} {Δ' : β → Δs} (b0 : β) (hβ : ∀ b, b = b0) (he : PE X e (tE W F Γ Δ T (fun _ : β => T) E Δ')) : PE X e (tE W F Γ Δ T (fun _ : Unit => T) (fun _ => E b0) fun _ => Δ' b0) :=
  he.wk fun σ H Q ⟨ok, g, e, q⟩ => ⟨ok, g, e, fun b v H' kb f ok' hv => by
    rw [hβ b] at ok' hv
    exact q () v H' kb f ok' hv⟩
theorem t_val {e : Expr} {β : Type} {T : Option γ} {k : β → Option γ} {c : β → Bool} {Δ' : β → Δs} (he : PE X e (tE W F Γ Δ T k (fun b => pBl (c b)) Δ')) (hw : ∀ whole, isTrue e X.env whole = (do let v ← whole; standAt e.pos; holding [v] (truthy v)) := by intro _; rfl) :
    PT X e (tTs W F Γ Δ T k c Δ') :=
  (pt_val he hw).wk fun σ H Q ⟨ok, g, e, q⟩ => ⟨ok, g, e, fun b v H' kb f ok' hv => ⟨c b, hv, q b H' kb f ok'⟩⟩
theorem t_not {e : Expr} {pos : Pos} {β : Type} {T : Option γ} {k : β → Option γ} {c : β → Bool} {Δ' : β → Δs} (he : PT X e (tTs W F Γ Δ T k c Δ')) : PT X (.UnaryOp .Not e pos) (tTs W F Γ Δ T k (fun b => !c b) Δ') :=
  (pt_not he).wk fun σ H Q ⟨ok, g, e, q⟩ => ⟨ok, g, e, fun b H' kb f ok' => q b H' kb f ok'⟩
theorem x_not {e : Expr} {pos : Pos} {β : Type} {T : Option γ} {k : β → Option γ} {c : β → Bool} {Δ' : β → Δs} (he : PE X e (tE W F Γ Δ T k (fun b => pBl (c b)) Δ')) : PE X (.UnaryOp .Not e pos) (tE W F Γ Δ T k (fun b => pBl (!c b)) Δ') :=
  (pe_not he).wk fun σ H Q ⟨ok, g, e, q⟩ => ⟨ok, g, e, fun b v H' kb f ok' hv => ⟨c b, hv, q b _ H' kb f ok' rfl⟩⟩
theorem t_tot {β : Type} {e : Expr} {T : Option γ} {c : β → Bool} {Δ' : β → Δs} (b0 : β) (hβ : ∀ b, b = b0) (he : PT X e (tTs W F Γ Δ T (fun _ : β => T) c Δ')) : PT X e (tTs W F Γ Δ T (fun _ : Unit => T) (fun _ => c b0) fun _ => Δ' b0) :=
  he.wk fun σ H Q ⟨ok, g, e, q⟩ => ⟨ok, g, e, fun b H' kb f ok' => by
    rw [hβ b] at ok' ⊢
    exact q () H' kb f ok'⟩
section
variable {a b : Expr} {rest : List Expr} {pos : Pos} {c1 c2 : Bool} {T : Option γ}
abbrev tTot (W : Bool) (F : Fm) (Γ : Gm) (Δ : Δs) {γ : Type} (T : Option γ) (c : Bool) : TT := tTs W F Γ Δ T (fun _ : Unit => T) (fun _ => c) fun _ => Δ
abbrev eTot (W : Bool) (F : Fm) (Γ : Gm) (Δ : Δs) {γ : Type} (T : Option γ) (p : Pd) : TE := tE W F Γ Δ T (fun _ : Unit => T) (fun _ => p) fun _ => Δ
theorem w_and1 (ha : PT X a (tTs W F Γ Δ T k c Δ')) : PW X (.BoolOp .And [a] pos) (tTs W F Γ Δ T k c Δ') := pw_and1 ha
theorem w_or1 (ha : PT X a (tTs W F Γ Δ T k c Δ')) : PW X (.BoolOp .Or [a] pos) (tTs W F Γ Δ T k c Δ') := pw_or1 ha
theorem w_or (ha : PT X a (tTot W F Γ Δ T c1)) (hb : PW X (.BoolOp .Or (b :: rest) pos) (tTot W F Γ Δ T c2)) : PW X (.BoolOp .Or (a :: b :: rest) pos) (tTot W F Γ Δ T (c1 || c2)) :=
  (pw_or ha hb).wk fun σ H Q ⟨ok, g, e, q⟩ => ⟨ok, g, e, fun _ H1 kb f ok1 => by
    cases c1 with
    | true => exact iteT (q () H1 kb f ok1)
    | false => exact iteF ⟨ok1, g, e, fun _ H2 kb2 f2 ok2 => q () H2 kb2 (f.trans f2) ok2⟩⟩
theorem v_one {op} {t : TE} (h : PE X a t) : PE X (.BoolOp op [a] pos) t := pe_one h
theorem v_and (ha : PE X a (eTot W F Γ Δ T (pBl c1))) (hb : PE X (.BoolOp .And (b :: rest) pos) (eTot W F Γ Δ T (pBl c2))) : PE X (.BoolOp .And (a :: b :: rest) pos) (eTot W F Γ Δ T (pBl (c1 && c2))) :=
  (pe_and ha hb).wk fun σ H Q ⟨ok, g, e, q⟩ => ⟨ok, g, e, fun _ v H1 kb f ok1 hv => ⟨c1, hv, by
    cases c1 with
    | true => exact iteT ⟨ok1, g, e, fun _ w H2 kb2 f2 ok2 hw => q () w H2 kb2 (f.trans f2) ok2 hw⟩
    | false => exact iteF (q () _ H1 kb f ok1 rfl)⟩⟩
end
section
variable {a b : Expr} {rest : List Expr} {pos : Pos} {β1 β2 S : Type} {T : Option γ} {c1 : β1 → Bool} {c2 : β1 → β2 → Bool} {Δ1 : β1 → Δs} {Δ2 : β1 → β2 → Δs} {T2 : β1 → Option (Bool × S)} {s1 : β1 → S} {s2 : β1 → β2 → S} {ΔS : β1 → S → Δs} {k : β1 × (Bool × S) → Option γ}
theorem w_andM (ha : PT X a (tTs W F Γ Δ T (fun b1 => (if c1 b1 = true then T2 b1 else some (false, s1 b1)).bind fun c => k (b1, c)) c1 Δ1)) (hb : ∀ b1, PW X (.BoolOp .And (b :: rest) pos) (tTs W F Γ (Δ1 b1) (T2 b1) (fun b2 => some (c2 b1 b2, s2 b1 b2)) (c2 b1) (Δ2 b1)))
    (h1 : ∀ b1, Δ1 b1 = ΔS b1 (s1 b1)) (h2 : ∀ b1 b2, Δ2 b1 b2 = ΔS b1 (s2 b1 b2)) : PW X (.BoolOp .And (a :: b :: rest) pos) (tTs W F Γ Δ T k (fun b => b.2.1) fun b => ΔS b.1 b.2.2) :=
  (pw_and ha (pw_ex hb)).wk fun σ H Q ⟨ok, g, e, q⟩ => ⟨ok, g, e, fun b1 H1 kb f ok1 => by
    cases h : c1 b1 with
    | true =>
      try dsimp only at kb
      rw [if_pos h] at kb
      obtain ⟨cs, ec, kc⟩ := bind_some kb
      refine iteT ⟨b1, ok1, cs, ec, fun b2 H2 kb2 f2 ok2 => ?_⟩
      have ecs : (c2 b1 b2, s2 b1 b2) = cs := Option.some.inj kb2
      rw [← ecs] at kc
      rw [h2] at ok2
      exact q (b1, (c2 b1 b2, s2 b1 b2)) H2 kc (f.trans f2) ok2
    | false =>
      try dsimp only at kb
      rw [if_neg (by rw [h]; exact Bool.false_ne_true)] at kb
      rw [h1] at ok1
      exact iteF (q (b1, (false, s1 b1)) H1 kb f ok1)⟩
theorem w_orM (ha : PT X a (tTs W F Γ Δ T (fun b1 => (if c1 b1 = true then some (true, s1 b1) else T2 b1).bind fun c => k (b1, c)) c1 Δ1)) (hb : ∀ b1, PW X (.BoolOp .Or (b :: rest) pos) (tTs W F Γ (Δ1 b1) (T2 b1) (fun b2 => some (c2 b1 b2, s2 b1 b2)) (c2 b1) (Δ2 b1)))
    (h1 : ∀ b1, Δ1 b1 = ΔS b1 (s1 b1)) (h2 : ∀ b1 b2, Δ2 b1 b2 = ΔS b1 (s2 b1 b2)) : PW X (.BoolOp .Or (a :: b :: rest) pos) (tTs W F Γ Δ T k (fun b => b.2.1) fun b => ΔS b.1 b.2.2) :=
  (pw_or ha (pw_ex hb)).wk fun σ H Q ⟨ok, g, e, q⟩ => ⟨ok, g, e, fun b1 H1 kb f ok1 => by
    cases h : c1 b1 with
    | true =>
      try dsimp only at kb
      rw [if_pos h] at kb
      rw [h1] at ok1
      exact iteT (q (b1, (true, s1 b1)) H1 kb f ok1)
    | false =>
      try dsimp only at kb
      rw [if_neg (by rw [h]; exact Bool.false_ne_true)] at kb
      obtain ⟨cs, ec, kc⟩ := bind_some kb
      refine iteF ⟨b1, ok1, cs, ec, fun b2 H2 kb2 f2 ok2 => ?_⟩
      have ecs : (c2 b1 b2, s2 b1 b2) = cs := Option.some.inj kb2
      rw [← ecs] at kc
      rw [h2] at ok2
      exact q (b1, (c2 b1 b2, s2 b1 b2)) H2 kc (f.trans f2) ok2⟩
theorem v_andM (ha : PE X a (tE W F Γ Δ T (fun b1 => (if c1 b1 = true then T2 b1 else some (false, s1 b1)).bind fun c => k (b1, c)) (fun b => pBl (c1 b)) Δ1)) (hb : ∀ b1, PE X (.BoolOp .And (b :: rest) pos) (tE W F Γ (Δ1 b1) (T2 b1) (fun b2 => some (c2 b1 b2, s2 b1 b2)) (fun b2 => pBl (c2 b1 b2)) (Δ2 b1)))
    (h1 : ∀ b1, Δ1 b1 = ΔS b1 (s1 b1)) (h2 : ∀ b1 b2, Δ2 b1 b2 = ΔS b1 (s2 b1 b2)) : PE X (.BoolOp .And (a :: b :: rest) pos) (tE W F Γ Δ T k (fun b => pBl b.2.1) fun b => ΔS b.1 b.2.2) :=
  (pe_and ha (pe_ex hb)).wk fun σ H Q ⟨ok, g, e, q⟩ => ⟨ok, g, e, fun b1 v H1 kb f ok1 hv => ⟨c1 b1, hv, by
    cases h : c1 b1 with
    | true =>
      try dsimp only at kb
      rw [if_pos h] at kb
      obtain ⟨cs, ec, kc⟩ := bind_some kb
      refine iteT ⟨b1, ok1, cs, ec, fun b2 w H2 kb2 f2 ok2 hw => ?_⟩
      have ecs : (c2 b1 b2, s2 b1 b2) = cs := Option.some.inj kb2
      rw [← ecs] at kc
      rw [h2] at ok2
      exact q (b1, (c2 b1 b2, s2 b1 b2)) w H2 kc (f.trans f2) ok2 hw
    | false =>
      try dsimp only at kb
      rw [if_neg (by rw [h]; exact Bool.false_ne_true)] at kb
      rw [h1] at ok1
      exact iteF (q (b1, (false, s1 b1)) _ H1 kb f ok1 rfl)⟩⟩
end
inductive Bo (S τ : Type) where
  | nx (s : S)
  | tm (t : τ)
inductive Tm (S ρ : Type) where
  | ct (s : S)
  | bk (s : S)
  | rt (r : ρ)
def fN {S : Type} (F : Fm) (C : S → Cxt) : Fn S := ⟨fun H s D => nxOk F (C s) H D.nx, fun h f => nxOk.mono h f⟩
def fB {S τ : Type} (F : Fm) (C : S → Cxt) (Tf : Fn τ) : Fn (Bo S τ) := ⟨fun H o D => match o with
  | .nx s => nxOk F (C s) H D.nx
  | .tm t => Tf.fin H t D, fun {H H' g D} h f => by
    cases g with
    | nx s => exact nxOk.mono h f
    | tm t => exact Tf.mono h f⟩
def fT {S ρ : Type} (F : Fm) (C : S → Cxt) (R : Rt ρ) : Fn (Tm S ρ) := ⟨fun H o D => match o with
  | .ct s => nxOk F (C s) H D.ct
  | .bk s => nxOk F (C s) H D.bk
  | .rt r => R r D.rt, fun {H H' g D} h f => by
    cases g with
    | ct s => exact nxOk.mono h f
    | bk s => exact nxOk.mono h f
    | rt r => exact h⟩
def Ins {γ : Type} (N : Fn γ) : Prop := ∀ H g D n, N.fin H g D → N.fin H g { D with nx := n }
theorem ins_F {ρ : Type} (R : Rt ρ) : Ins (fF R) := fun _ _ _ _ h => h
theorem ins_T {S ρ : Type} {F : Fm} {C : S → Cxt} {R : Rt ρ} : Ins (fT F C R) := fun H g D n h => by cases g <;> exact h
def inB {S τ : Type} (T : Option τ) : Option (Bo S τ) := T.bind fun t => some (.tm t)
def boK {S τ γ : Type} (k : S → Option γ) (ι : τ → γ) : Bo S τ → Option γ
  | .nx s => k s
  | .tm t => some (ι t)
variable {N : Fn γ} {rest : List Stmt}
theorem s_end {S : Type} {C : S → Cxt} {T : Option S} (s : S) (hT : T = some s) (g : SubG (C s).1 Γ) (h : (C s).2.Sublist Δ) : PSs X [] (tS F Γ Δ (fN F C) T) :=
  pss_nil.wk fun D σ H ⟨ok, g', e, f⟩ => by
    rw [hT] at e
    cases e
    exact f σ H (Fzs.refl H) (ok.wk g h)
theorem s_endB {S τ : Type} {C : S → Cxt} {Tf : Fn τ} (s : S) (g : SubG (C s).1 Γ) (h : (C s).2.Sublist Δ) : PSs X [] (tS F Γ Δ (fB F C Tf) (some (.nx s))) :=
  pss_nil.wk fun D σ H ⟨ok, g', e, f⟩ => by
    cases e
    exact f σ H (Fzs.refl H) (ok.wk g h)
theorem s_tm {S τ : Type} {C : S → Cxt} {Tf : Fn τ} {st : List Stmt} {T : Option τ} (h : PSs X st (tS F Γ Δ Tf T)) : PSs X st (tS F Γ Δ (fB F C Tf) (inB T)) :=
  h.wk fun D σ H ⟨ok, g', e, f⟩ => by
    obtain ⟨t, et, e2⟩ := bind_some e
    cases e2
    exact ⟨ok, t, et, f⟩
section
variable {ce : Expr} {A B : List Stmt} {pos : Pos} {β : Type} {T : Option γ} {c : β → Bool} {Δ' : β → Δs}
theorem s_if0 {N1 N2 : Fn γ} {t : TS} {u : TS} {k : β → Option γ} (hc : PT X ce (tTs true F Γ Δ T k c Δ')) (ha : PSs X A t) (hb : PSs X B u) (hr : PSs X rest v) {t' : TS}
    (hw : ∀ D σ H, t' D σ H → Ok F Γ Δ σ H ∧ ∃ g, T = some g ∧ ∀ b H', k b = some g → St true H H' → Ok F Γ (Δ' b) σ H' → (c b = true → t { D with nx := v D } σ H') ∧ (c b = false → u { D with nx := v D } σ H')) : PSs X (.If ce A B pos :: rest) t' :=
  (pss_cons (ps_if hc ha hb) hr).wk fun D σ H h => by
    obtain ⟨ok, g, e, q⟩ := hw D σ H h
    refine ⟨ok, g, e, fun b H' kb f ok' => ?_⟩
    obtain ⟨q1, q2⟩ := q b H' kb f ok'
    cases hcb : c b with
    | true => exact iteT (q1 hcb)
    | false => exact iteF (q2 hcb)
theorem s_ifT {T1 T2 : β → Option γ} (hI : Ins N) (hc : PT X ce (tTs true F Γ Δ T (fun b => if c b = true then T1 b else T2 b) c Δ')) (ha : ∀ b, PSs X A (tS F Γ (Δ' b) N (T1 b))) (hr : ∀ b, PSs X rest (tS F Γ (Δ' b) N (T2 b))) : PSs X (.If ce A [] pos :: rest) (tS F Γ Δ N T) :=
  s_if0 (N1 := N) (N2 := N) hc (pss_ex ha) pss_nil (pss_ex hr) fun D σ H ⟨ok, g, e, f⟩ => ⟨ok, g, e, fun b H' kb fz ok' => ⟨fun h => by
    try dsimp only at kb
    rw [if_pos h] at kb
    exact ⟨b, ok', g, kb, hI _ _ _ _ (N.mono f fz.fz)⟩, fun h => by
    try dsimp only at kb
    rw [if_neg (by rw [h]; exact Bool.false_ne_true)] at kb
    exact ⟨b, ok', g, kb, N.mono f fz.fz⟩⟩⟩
theorem s_ifB {S τ : Type} {C : S → Cxt} {Tf : Fn τ} {T : Option (Bo S τ)} {T1 : β → Option τ} {T2 : β → Option (Bo S τ)} (hI : Ins Tf) (hc : PT X ce (tTs true F Γ Δ T (fun b => if c b = true then inB (T1 b) else T2 b) c Δ')) (ha : ∀ b, PSs X A (tS F Γ (Δ' b) Tf (T1 b))) (hr : ∀ b, PSs X rest (tS F Γ (Δ' b) (fB F C Tf) (T2 b))) : PSs X (.If ce A [] pos :: rest) (tS F Γ Δ (fB F C Tf) T) :=
  s_if0 (N1 := fB F C Tf) (N2 := fB F C Tf) hc (pss_ex ha) pss_nil (pss_ex hr) fun D σ H ⟨ok, g, e, f⟩ => ⟨ok, g, e, fun b H' kb fz ok' => ⟨fun h => by
    try dsimp only at kb
    rw [if_pos h] at kb
    obtain ⟨t, et, e2⟩ := bind_some kb
    cases e2
    exact ⟨b, ok', t, et, hI _ _ _ _ (Tf.mono f fz.fz)⟩, fun h => by
    try dsimp only at kb
    rw [if_neg (by rw [h]; exact Bool.false_ne_true)] at kb
    exact ⟨b, ok', g, kb, (fB F C Tf).mono f fz.fz⟩⟩⟩
theorem s_ifN {S : Type} {C : S → Cxt} {T1 T2 : β → Option S} {k2 : β → S → Option γ} (hc : PT X ce (tTs true F Γ Δ T (fun b => (if c b = true then T1 b else T2 b).bind (k2 b)) c Δ')) (ha : ∀ b, PSs X A (tS F Γ (Δ' b) (fN F C) (T1 b))) (hb : ∀ b, PSs X B (tS F Γ (Δ' b) (fN F C) (T2 b)))
    (hr : ∀ b s, PSs X rest (tS F (C s).1 (C s).2 N (k2 b s))) : PSs X (.If ce A B pos :: rest) (tS F Γ Δ N T) :=
  s_if0 (N1 := N) (N2 := N) hc (pss_ex ha) (pss_ex hb) (pss_ex fun b => pss_ex fun s => hr b s) fun D σ H ⟨ok, g, e, f⟩ => ⟨ok, g, e, fun b H' kb fz ok' => by
    obtain ⟨s, es, ks⟩ := bind_some kb
    refine ⟨fun h => ?_, fun h => ?_⟩
    · rw [if_pos h] at es
      exact ⟨b, ok', s, es, fun σ2 H2 f2 ok2 => ⟨b, s, ok2, g, ks, N.mono f (fz.fz.trans f2)⟩⟩
    · rw [if_neg (by rw [h]; exact Bool.false_ne_true)] at es
      exact ⟨b, ok', s, es, fun σ2 H2 f2 ok2 => ⟨b, s, ok2, g, ks, N.mono f (fz.fz.trans f2)⟩⟩⟩
theorem s_ifM {S τ : Type} {C : S → Cxt} {Tf : Fn τ} {ι : τ → γ} {T1 T2 : β → Option (Bo S τ)} {k2 : β → S → Option γ} (hI : Ins Tf) (hι : ∀ H t D, N.fin H (ι t) D → Tf.fin H t D) (hc : PT X ce (tTs true F Γ Δ T (fun b => (if c b = true then T1 b else T2 b).bind (boK (k2 b) ι)) c Δ'))
    (ha : ∀ b, PSs X A (tS F Γ (Δ' b) (fB F C Tf) (T1 b))) (hb : ∀ b, PSs X B (tS F Γ (Δ' b) (fB F C Tf) (T2 b))) (hr : ∀ b s, PSs X rest (tS F (C s).1 (C s).2 N (k2 b s))) : PSs X (.If ce A B pos :: rest) (tS F Γ Δ N T) :=
  s_if0 (N1 := N) (N2 := N) hc (pss_ex ha) (pss_ex hb) (pss_ex fun b => pss_ex fun s => hr b s) fun D σ H ⟨ok, g, e, f⟩ => ⟨ok, g, e, fun b H' kb fz ok' => by
    obtain ⟨o, es, ks⟩ := bind_some kb
    have fin : (fB F C Tf).fin H' o { D with nx := fun σ H => ∃ b s, tS F (C s).1 (C s).2 N (k2 b s) D σ H } := by
      cases o with
      | nx s => exact fun σ2 H2 f2 ok2 => ⟨b, s, ok2, g, ks, N.mono f (fz.fz.trans f2)⟩
      | tm t =>
        have eg : ι t = g := Option.some.inj ks
        subst eg
        exact hI _ _ _ _ (hι _ _ _ (N.mono f fz.fz))
    refine ⟨fun h => ?_, fun h => ?_⟩
    · rw [if_pos h] at es
      exact ⟨b, ok', o, es, fin⟩
    · rw [if_neg (by rw [h]; exact Bool.false_ne_true)] at es
      exact ⟨b, ok', o, es, fin⟩⟩
end
end
end L3
end
section
set_option maxHeartbeats 4000000
namespace L3
open PySem PySem.Spec PyProof.Rows L2
section
variable {X : Cx} {W : Bool} {F : Fm} {Γ : Gm} {Δ : Δs} {γ : Type}
def RdL {α : Type} (Δ : Δs) (p : Pd) (E : α → Pd) (xs : List α) : Prop := ∀ F H v, Hk F Δ H → p.pr H v → RL E xs H v
theorem rdF {α : Type} {E : α → Pd} {xs : List α} : RdL Δ (pL E xs) E xs := fun _ _ _ _ ⟨a, o, vs, e, h, z, p⟩ => ⟨a, vs, e, .inr ⟨o, h⟩, z, p⟩
theorem rdO {α : Type} {E : α → Pd} {xs : List α} {v : V} {prm : Option Nat} (j : Nat) (h : Δ[j]? = some ⟨v, oL E xs, prm⟩ := by rfl) : RdL Δ (pV v) E xs := fun F H w hk e => by
  have e : w = v := e
  subst e
  obtain ⟨G, p, vs, _, ev, hp, z, q⟩ := hk.at h
  exact ⟨p, vs, ev, .inl hp, z, q⟩
theorem paired_at {α β : Type} {P : α → β → Prop} : ∀ {xs : List α} {vs : List β} {i : Nat} {x : α}, Paired P xs vs → xs[i]? = some x → ∃ v, vs[i]? = some v ∧ P x v
  | _, _, _, _, .nil, e => by simp at e
  | _, _, 0, _, .cons r _, e => by simp at e; subst e; exact ⟨_, rfl, r⟩
  | _, _, i + 1, x, .cons _ t, e => by
    obtain ⟨v, h1, h2⟩ := paired_at (i := i) (x := x) t (by simpa using e)
    exact ⟨v, by simpa using h1, h2⟩
theorem paired_atI {α β : Type} {P : α → β → Prop} {xs : List α} {vs : List β} {i : Int} {x : α} (h : Paired P xs vs) (e : atI xs i = some x) : ∃ v, atI vs i = some v ∧ P x v := by
  unfold atI at e ⊢
  rw [← paired_len h]
  obtain ⟨j, ej, ex⟩ := bind_some e
  obtain ⟨v, hv, p⟩ := paired_at h ex
  exact ⟨v, by rw [ej]; exact hv, p⟩
theorem paired_app {α β : Type} {P : α → β → Prop} : ∀ {xs ys : List α} {vs ws : List β}, Paired P xs vs → Paired P ys ws → Paired P (xs ++ ys) (vs ++ ws)
  | _, _, _, _, .nil, s => s
  | _, _, _, _, .cons r t, s => .cons r (paired_app t s)
theorem paired_drop {α β : Type} {P : α → β → Prop} : ∀ (n : Nat) {xs : List α} {vs : List β}, Paired P xs vs → Paired P (xs.drop n) (vs.drop n)
  | 0, _, _, h => h
  | _ + 1, _, _, .nil => .nil
  | n + 1, _, _, .cons _ t => paired_drop n t
theorem paired_take {α β : Type} {P : α → β → Prop} : ∀ (n : Nat) {xs : List α} {vs : List β}, Paired P xs vs → Paired P (xs.take n) (vs.take n)
  | 0, _, _, _ => .nil
  | _ + 1, _, _, .nil => .nil
  | n + 1, _, _, .cons r t => .cons r (paired_take n t)
theorem paired_set {α β : Type} {P : α → β → Prop} {x : α} {v : β} (r : P x v) : ∀ {xs : List α} {vs : List β} (i : Nat), Paired P xs vs → Paired P (xs.set i x) (vs.set i v)
  | _, _, _, .nil => .nil
  | _, _, 0, .cons _ t => .cons r t
  | _, _, i + 1, .cons q t => .cons q (paired_set r i t)
theorem paired_ints {H : Hp} : ∀ {xs : List Int} {vs : List V}, Paired (fun x u => (pInt x).pr H u) xs vs → vs = xs.map V.int
  | _, _, .nil => rfl
  | _, _, .cons r t => by rw [List.map_cons, ← paired_ints t]; exact congrArg (· :: _) r
theorem paired_bls {H : Hp} : ∀ {xs : List Bool} {vs : List V}, Paired (fun x u => (pBl x).pr H u) xs vs → vs = xs.map V.bl
  | _, _, .nil => rfl
  | _, _, .cons r t => by rw [List.map_cons, ← paired_bls t]; exact congrArg (· :: _) r
theorem ints_paired {H : Hp} : ∀ xs : List Int, Paired (fun x u => (pInt x).pr H u) xs (xs.map V.int)
  | [] => .nil
  | _ :: xs => .cons rfl (ints_paired xs)
section
variable {a b : Expr} {pos : Pos} {β1 β2 α : Type} {T : Option γ} {k1 : β1 → Option γ} {Δ1 : β1 → Δs} {Δ2 : β1 → β2 → Δs} {E1 : β1 → Pd} {Ee : α → Pd} {xs : β1 → β2 → List α} {j : β1 → β2 → Int}
theorem x_ixL {k : (β1 × β2) × α → Option γ} (ha : PE X a (tE W F Γ Δ T k1 E1 Δ1)) (hb : ∀ b1, PE X b (tE W F Γ (Δ1 b1) (k1 b1) (fun b2 => (atI (xs b1 b2) (j b1 b2)).bind fun x => k ((b1, b2), x)) (fun b => pInt (j b1 b)) (Δ2 b1)))
    (rd : ∀ b1 b2, RdL (Δ2 b1 b2) (E1 b1) Ee (xs b1 b2)) (hs : PlainIx b := by exact fun _ _ => rfl) : PE X (.Subscript a b pos) (tE W F Γ Δ T k (fun b => Ee b.2) fun b => Δ2 b.1.1 b.1.2) :=
  x2p (b_ix ix_list hs) ha hb fun b1 b2 x σ v w H Q ok e hv hw q => by
    obtain ⟨p, vs, ev, sq, _, pr⟩ := (rd b1 b2 F H v ok.hk hv).sq (K := X.K)
    obtain ⟨u, eu, pu⟩ := paired_atI pr e
    exact ⟨p, vs, j b1 b2, u, ev, hw, sq, eu, q u pu⟩
end
section
variable {a : Expr} {pos p : Pos} {β α : Type} {T : Option γ} {Δ1 : β → Δs} {E1 : β → Pd} {Ee : α → Pd} {xs : β → List α} {k : β → Option γ}
theorem x_lenL (hm : X.mg "len" = none) (ha : PE X a (tE W F Γ Δ T k E1 Δ1)) (rd : ∀ b, RdL (Δ1 b) (E1 b) Ee (xs b)) (hg : Gl X "len" := by rfl) (hs : starEach [a] X.env = (false, eval a X.env) :: starEach [] X.env := by rfl) : PE X (.Call (.Name "len" p) [a] [] pos) (tE W F Γ Δ T k (fun b => pInt ((xs b).length : Int)) Δ1) :=
  x1t (u_callB call_len_seq hg hm PySem.boot_len (by decide) (by decide) hs) ha fun b σ v H Q ok hv q => by
    obtain ⟨p, vs, ev, sq, _, pr⟩ := (rd b F H v ok.hk hv).sq (K := X.K)
    rw [ev]
    exact ⟨p, vs, rfl, .inl sq, by rw [← paired_len pr]; exact q _ rfl⟩
theorem x_intI {i : β → Int} (hm : X.mg "int" = none) (ha : PE X a (tE W F Γ Δ T k (fun b => pInt (i b)) Δ1)) (hg : Gl X "int" := by rfl) (hs : starEach [a] X.env = (false, eval a X.env) :: starEach [] X.env := by rfl) : PE X (.Call (.Name "int" p) [a] [] pos) (tE W F Γ Δ T k (fun b => pInt (i b)) Δ1) :=
  x1t (u_callTy call_int1 hg hm (by decide +kernel) (by decide) (by decide) hs) ha fun b σ v H Q ok hv q => .inl ⟨i b, by rw [show v = .int (i b) from hv], q _ rfl⟩
theorem x_intB {c : β → Bool} (hm : X.mg "int" = none) (ha : PE X a (tE W F Γ Δ T k (fun b => pBl (c b)) Δ1)) (hg : Gl X "int" := by rfl) (hs : starEach [a] X.env = (false, eval a X.env) :: starEach [] X.env := by rfl) : PE X (.Call (.Name "int" p) [a] [] pos) (tE W F Γ Δ T k (fun b => pInt (if c b then 1 else 0)) Δ1) :=
  x1t (u_callTy call_int1 hg hm (by decide +kernel) (by decide) (by decide) hs) ha fun b σ v H Q ok hv q => .inr ⟨c b, by rw [show v = .bl (c b) from hv], q _ rfl⟩
theorem x_listL (hm : X.mg "list" = none) (ha : PE X a (tE W F Γ Δ T k E1 Δ1)) (rd : ∀ b, RdL (Δ1 b) (E1 b) Ee (xs b)) (hg : Gl X "list" := by rfl) (hs : starEach [a] X.env = (false, eval a X.env) :: starEach [] X.env := by rfl) : PE X (.Call (.Name "list" p) [a] [] pos) (tO W F Γ Δ T k (fun b => oL Ee (xs b)) Δ1) :=
  x1n (u_callTy call_list_of hg hm (by decide +kernel) (by decide) (by decide) hs) ha fun b σ v H Q ok hv q => by
    obtain ⟨p, vs, ev, sq, z, pr⟩ := (rd b F H v ok.hk hv).sq (K := X.K)
    rw [ev]
    exact ⟨p, vs, rfl, .inl sq, fun l hl => q l vs hl z pr⟩
end
section
variable {N : Fn γ} {rest : List Stmt}
theorem s_setL {o i e : Expr} {pos pos' : Pos} {β0 β1 β2 α : Type} {T : Option γ} {k0 : β0 → Option γ} {k1 : β0 → β1 → Option γ} {k : (β0 × β1) × β2 → Option γ} {Δ0 : β0 → Δs} {Δ1 : β0 → β1 → Δs} {Δ2 : β0 → β1 → β2 → Δs} {Ee : α → Pd} {y : β0 → α} {n : β0 → β1 → β2 → Int} {xs : β0 → β1 → β2 → List α} {v : V} {prm : Option Nat} (j : Nat)
    (he : PE X e (tE true F Γ Δ T k0 (fun b => Ee (y b)) Δ0)) (ho : ∀ b0, PE X o (tE true F Γ (Δ0 b0) (k0 b0) (k1 b0) (fun _ => pV v) (Δ1 b0)))
    (hi : ∀ b0 b1, PE X i (tE true F Γ (Δ1 b0 b1) (k1 b0 b1) (fun b2 => (ixN (xs b0 b1 b2).length (n b0 b1 b2)).bind fun m => (fun (_ : Nat) => k ((b0, b1), b2)) m) (fun b2 => pInt (n b0 b1 b2)) (Δ2 b0 b1)))
    (hj : ∀ b0 b1 b2, (Δ2 b0 b1 b2)[j]? = some ⟨v, oL Ee (xs b0 b1 b2), prm⟩)
    (hr : ∀ b : (β0 × β1) × β2, PSs X rest (tS F Γ ((Δ2 b.1.1 b.1.2 b.2).set j ⟨v, oL Ee ((xs b.1.1 b.1.2 b.2).set ((ixN (xs b.1.1 b.1.2 b.2).length (n b.1.1 b.1.2 b.2)).getD 0) (y b.1.1)), prm⟩) N (k b)))
    (hs : swapsWithSole [.Subscript o i pos'] e pos.line X.env = pure false := by rfl) (hw : swappedStores [.Subscript o i pos'] e X.env = pure none := by rfl) (h1 : (assignEach [.Subscript o i pos'] X.env).map (·.2) = [assign (.Subscript o i pos') X.env] := by rfl)
    (ha : ∀ v, assign (.Subscript o i pos') X.env v = (do
      let ov ← holding [v] (eval o X.env)
      let iv ← holding [v, ov] (eval i X.env)
      standAt pos'
      holding [v, ov, iv] (setItem ov iv v)
      release [v, ov, iv] []) := by intro _; rfl) :
    PSs X (.Assign [.Subscript o i pos'] e pos :: rest) (tS F Γ Δ N T) :=
  (pss_cons (ps_asg he (pg_sub (pe_ex ho) (pe_ex fun b0 => pe_ex fun b1 => hi b0 b1) set_list ha) hs hw h1) (pss_ex hr)).wk fun D σ H ⟨ok, g, e, f⟩ => ⟨ok, g, e, fun b0 u H0 kb0 f0 ok0 hu => ⟨b0, ok0, g, kb0, fun b1 w H1 kb1 f1 ok1 hw => ⟨b0, b1, ok1, g, kb1, fun b2 z H2 kb2 f2 ok2 hz => by
    obtain ⟨m, em, km⟩ := bind_some kb2
    have hw : w = v := hw
    have hz : z = .int (n b0 b1 b2) := hz
    subst hw hz
    obtain ⟨G, ⟨p, vs, eG, ev, hp, zz, pr⟩, nd, turn⟩ := ok2.cell (hj b0 b1 b2)
    refine ⟨p, vs, n b0 b1 b2, m, ev, rfl, hp, by rw [← paired_len pr]; exact em, ((b0, b1), b2), ?_⟩
    have hu2 : (Ee (y b0)).pr H2 u := (Ee (y b0)).mono (f1.fz.trans f2.fz) hu
    have fzm : Fzs H2 (upd H2 p (.lst (vs.set m u))) := Fzs.mut hp fun z => z
    obtain ⟨ok3, f3⟩ := turn (upd H2 p (.lst (vs.set m u))) (oL Ee ((xs b0 b1 b2).set m (y b0))) (fun a o na e => by
      rw [upd_ne fun q => na (by
        show a ∈ G
        have eG : G = [p] := eG
        rw [eG, q]; exact List.mem_singleton.mpr rfl)]
      exact e) ⟨p, vs.set m u, eG, ev, upd_same, by rw [List.length_set]; exact zz, paired_set (P := fun x q => (Ee x).pr (upd H2 p (.lst (vs.set m u))) q) ((Ee _).mono fzm hu2) m (paired_mono (fun x _ => (Ee x).mono fzm) pr)⟩
    have em2 : (ixN (xs b0 b1 b2).length (n b0 b1 b2)).getD 0 = m := by rw [em]; rfl
    show tS F Γ _ N (k ((b0, b1), b2)) D σ _
    rw [em2]
    exact ⟨ok3, g, km, N.mono f (((f0.fz.trans f1.fz).trans f2.fz).trans f3.fz)⟩⟩⟩⟩
end
end
end L3
end
section
set_option maxHeartbeats 4000000
namespace L3
open PySem PySem.Spec PyProof.Rows L2
theorem start_gam {H : Hp} : ∀ {ps : List Pd} {vs : List V} {m : Nat}, Paired (fun p v => Pd.pr p H v) ps vs → ∀ (i : Nat) (p : Pd), (ps.map some ++ List.replicate m none)[i]? = some (some p) → ∃ v, (vs.map some ++ List.replicate m none)[i]? = some (some v) ∧ p.pr H v
  | [], _, m, .nil, i, p, e => by
    have e : (List.replicate m (none : Option Pd))[i]? = some (some p) := e
    rw [List.getElem?_replicate] at e
    split at e <;> cases e
  | _ :: _, _ :: _, m, .cons r t, 0, p, e => by
    have e : some (some _) = some (some p) := e
    cases e
    exact ⟨_, rfl, r⟩
  | _ :: _, _ :: _, m, .cons r t, i + 1, p, e => start_gam t i p e
theorem ok_start {ps : List Pd} {vs : List V} {N : List Str} {H : Hp} {Δ : List Cel} {n : Nat} (hn : vs.length = n) (h : Paired (fun p v => Pd.pr p H v) ps vs) (hd : ∀ c ∈ Δ, c.d.pr c.G H c.v) (nd : (cellsOf Δ).Nodup) (hp : ∀ (i : Nat) (c : Cel), Δ[i]? = some c → c.prm = some i) :
    Ok ⟨H, Δ.map Cel.G⟩ (ps.map some ++ List.replicate (N.length - n) none) (Δ.map Cel.fg) (L2.start N vs) H := by
  subst hn
  refine ⟨⟨Δ, rfl, fun _ _ e _ => e, hd, nd, fun c hc a ha => .inr ?_, fun m hm a ha => ?_⟩, ?_, fun i p e => start_gam h i p e⟩
  · obtain ⟨i, hi⟩ := List.getElem?_of_mem hc
    exact ⟨i, c.G, hp i c hi, by rw [List.getElem?_map, hi]; rfl, ha⟩
  · obtain ⟨c, hc, e⟩ := List.mem_map.mp hm
    subst e
    obtain ⟨o, e, _⟩ := c.d.cellsN (hd c hc) a ha
    exact ⟨o, e⟩
  · unfold L2.start
    rw [List.length_append, List.length_append, List.length_map, List.length_map, List.length_replicate, List.length_replicate, paired_len h]
section
variable {F : Fm} {Γ : Gm} {Δ : Δs} {σ : SS} {H H' : Hp} {W : Bool}
theorem call_f0 (ok : Ok F Γ Δ σ H) (hk : Hk ⟨H, []⟩ [] H') : Ok F Γ Δ σ H' ∧ St W H H' := by
  obtain ⟨_, _, hk⟩ := hk
  have g : Gr H H' := fun a o e => hk.base a o e fun _ h => nomatch h
  exact ⟨ok.gr g, g.st⟩
theorem call_o0 {v : V} {d : Od} (ok : Ok F Γ Δ σ H) (hk : Hk ⟨H, []⟩ [⟨v, d, none⟩] H') : OkN W F Γ H v d Δ σ H' ∧ St W H H' := by
  obtain ⟨Δ0, e, hk⟩ := hk
  match Δ0, e with
  | [⟨G, _, _, _⟩], e =>
    cases e
    have g : Gr H H' := fun a o e => hk.base a o e fun _ h => nomatch h
    have nw : ∀ a ∈ G, H a = none := fun a ha => by
      rcases hk.own _ (List.mem_singleton.mpr rfl) a ha with z | ⟨i, m, z, _⟩
      · exact z
      · cases z
    exact ⟨ok.add g hk.ndup.1 nw (hk.del _ (List.mem_singleton.mpr rfl)), g.st⟩
theorem lendO {Δ1 Δ2 : List Cel} (k : HkO F (Δ1 ++ Δ2) H) {Δ1' N : List Cel} (hk : HkO ⟨H, Δ1.map Cel.G⟩ (N ++ Δ1') H') (hl : Δ1'.length = Δ1.length) (hi : ∀ (i : Nat) (c : Cel), Δ1'[i]? = some c → c.prm = some i) (hN : ∀ c ∈ N, c.prm = none) {Δ1o : List Cel} (ho : Δ1o.length = Δ1.length) (hoe : ∀ (i : Nat) (c c' e : Cel), Δ1[i]? = some c → Δ1'[i]? = some c' → Δ1o[i]? = some e → e = ⟨c'.G, c'.v, c'.d, c.prm⟩) :
    HkO F (N ++ Δ1o ++ Δ2) H' ∧ St true H H' ∧ ∀ c ∈ N, ∀ a ∈ c.G, H a = none := by
  have hG : ∀ a, a ∈ cellsOf Δ1 ↔ ∃ m ∈ Δ1.map Cel.G, a ∈ m := fun a => by
    unfold cellsOf
    rw [List.mem_flatMap]
    constructor
    · rintro ⟨c, hc, ha⟩; exact ⟨c.G, List.mem_map.mpr ⟨c, hc, rfl⟩, ha⟩
    · rintro ⟨m, hm, ha⟩
      obtain ⟨c, hc, e⟩ := List.mem_map.mp hm
      subst e
      exact ⟨c, hc, ha⟩
  have kp : ∀ a o, a ∉ cellsOf Δ1 → H a = some o → H' a = some o := fun a o n e => hk.base a o e fun m hm ha => n ((hG a).mpr ⟨m, hm, ha⟩)
  have k1 : HkO F Δ1 H := k.less (List.sublist_append_left _ _)
  have k2 : HkO F Δ2 H := k.less (List.sublist_append_right _ _)
  have fz : Fzs H H' := fun a o p e => kp a o (fun ha => by
    obtain ⟨u, eu, nu⟩ := k1.isC ha
    rw [e] at eu; cases eu; exact nu p) e
  have dom : ∀ a o, H a = some o → ∃ u, H' a = some u := fun a o e => by
    by_cases ha : a ∈ cellsOf Δ1
    · obtain ⟨m, hm, ha⟩ := (hG a).mp ha
      exact hk.mem m hm a ha
    · exact ⟨o, kp a o ha e⟩
  have nd := k.nod
  rw [cellsOf_app] at nd
  obtain ⟨nd1, nd2, nd3⟩ := List.nodup_append.mp nd
  -- what a cell of the def's end owns
  have ownN : ∀ c ∈ N, ∀ a ∈ c.G, H a = none := fun c hc a ha => by
    rcases hk.own c (List.mem_append_left _ hc) a ha with z | ⟨i, m, z, _⟩
    · exact z
    · rw [hN c hc] at z; cases z
  have own1 : ∀ (i : Nat) (c' : Cel), Δ1'[i]? = some c' → ∀ a ∈ c'.G, H a = none ∨ ∃ c, Δ1[i]? = some c ∧ a ∈ c.G := fun i c' h a ha => by
    rcases hk.own c' (List.mem_append_right _ (List.mem_of_getElem? h)) a ha with z | ⟨q, m, z, hm, hin⟩
    · exact .inl z
    · rw [hi i c' h] at z
      cases z
      have hm : (Δ1.map Cel.G)[i]? = some m := hm
      rw [List.getElem?_map] at hm
      cases e : Δ1[i]? with
      | none => rw [e] at hm; cases hm
      | some c =>
        rw [e] at hm
        cases hm
        exact .inr ⟨c, rfl, hin⟩
  have cof : ∀ (i : Nat) (e : Cel), Δ1o[i]? = some e → ∃ c c', Δ1[i]? = some c ∧ Δ1'[i]? = some c' ∧ e = ⟨c'.G, c'.v, c'.d, c.prm⟩ := fun i e h => by
    have hl1 : i < Δ1o.length := by
      by_cases x : i < Δ1o.length
      · exact x
      · rw [List.getElem?_eq_none (by omega)] at h; cases h
    have e1 := List.getElem?_eq_getElem (l := Δ1) (i := i) (by omega)
    have e2 := List.getElem?_eq_getElem (l := Δ1') (i := i) (by omega)
    exact ⟨_, _, e1, e2, hoe i _ _ e e1 e2 h⟩
  have eqG : Δ1o.map Cel.G = Δ1'.map Cel.G := by
    apply List.ext_getElem?
    intro i
    rw [List.getElem?_map, List.getElem?_map]
    by_cases hl1 : i < Δ1o.length
    · obtain ⟨c, c', _, e2, e3⟩ := cof i _ (List.getElem?_eq_getElem hl1)
      rw [List.getElem?_eq_getElem hl1, e2, e3]
      rfl
    · rw [List.getElem?_eq_none (by omega), List.getElem?_eq_none (by omega)]
  have eqC : cellsOf Δ1o = cellsOf Δ1' := by
    unfold cellsOf
    rw [List.flatMap_def, List.flatMap_def, eqG]
  refine ⟨⟨fun a o e m => kp a o (fun ha => ?_) (k.base a o e m), fun c hc => ?_, ?_, fun c hc a ha => ?_, fun m hm a ha => ?_⟩, ⟨fz, (fun h => nomatch h), dom⟩, ownN⟩
  · obtain ⟨c, hc, ha⟩ := List.mem_flatMap.mp ha
    rcases k1.own c hc a ha with z | ⟨i, w, _, hw, z⟩
    · rw [e] at z; cases z
    · exact m w (List.mem_of_getElem? hw) z
  · rcases List.mem_append.mp hc with hc | hc
    · rcases List.mem_append.mp hc with hc | hc
      · exact hk.del c (List.mem_append_left _ hc)
      · obtain ⟨i, h⟩ := List.getElem?_of_mem hc
        obtain ⟨d, d', _, e2, e3⟩ := cof i c h
        subst e3
        exact hk.del d' (List.mem_append_right _ (List.mem_of_getElem? e2))
    · exact c.d.frame (k2.del c hc) (fun a ha o q => kp a o (fun h1 => nd3 a h1 a (mem_cellsOf hc ha) rfl) q) fz
  · rw [cellsOf_app, cellsOf_app, eqC, ← cellsOf_app]
    refine List.nodup_append.mpr ⟨hk.nod, nd2, fun a ha b hb e => ?_⟩
    subst e
    obtain ⟨o2, e2, _⟩ := k2.isC hb
    rw [cellsOf_app] at ha
    rcases List.mem_append.mp ha with ha | ha
    · obtain ⟨c, hc, ha⟩ := List.mem_flatMap.mp ha
      rw [ownN c hc a ha] at e2; cases e2
    · obtain ⟨c', hc, ha⟩ := List.mem_flatMap.mp ha
      obtain ⟨i, h⟩ := List.getElem?_of_mem hc
      rcases own1 i c' h a ha with z | ⟨c, e1, z⟩
      · rw [z] at e2; cases e2
      · exact nd3 a (mem_cellsOf (List.mem_of_getElem? e1) z) a hb rfl
  · rcases List.mem_append.mp hc with hc | hc
    · rcases List.mem_append.mp hc with hc | hc
      · exact .inl (k.fresh0 (ownN c hc a ha))
      · obtain ⟨i, h⟩ := List.getElem?_of_mem hc
        obtain ⟨d, d', e1, e2, e3⟩ := cof i c h
        subst e3
        rcases own1 i d' e2 a ha with z | ⟨c, e4, z⟩
        · exact .inl (k.fresh0 z)
        · rw [e1] at e4
          cases e4
          exact k1.own d (List.mem_of_getElem? e1) a z
    · exact k2.own c hc a ha
  · obtain ⟨o, e⟩ := k.mem m hm a ha
    exact dom a o e
theorem map_one {Δ1 : List Cel} {c : Cell} (e : Δ1.map Cel.fg = [c]) : ∃ G, Δ1 = [⟨G, c.v, c.d, c.prm⟩] := by
  cases Δ1 with
  | nil => cases e
  | cons y r =>
    cases r with
    | cons _ _ => cases e
    | nil => cases e; exact ⟨y.G, rfl⟩
theorem map_two {Δ1 : List Cel} {c d : Cell} (e : Δ1.map Cel.fg = [c, d]) : ∃ G G2, Δ1 = [⟨G, c.v, c.d, c.prm⟩, ⟨G2, d.v, d.d, d.prm⟩] := by
  cases Δ1 with
  | nil => cases e
  | cons y r =>
    cases r with
    | nil => cases e
    | cons z r =>
      cases r with
      | cons _ _ => cases e
      | nil => cases e; exact ⟨y.G, z.G, rfl⟩
theorem Ok.lend1 {j : Nat} {c : Cell} (ok : Ok F Γ Δ σ H) (hj : Δ[j]? = some c) : ∃ G, c.d.pr G H c.v ∧ G.Nodup ∧ (∀ H' d', Hk ⟨H, [G]⟩ [⟨c.v, d', some 0⟩] H' → Ok F Γ (Δ.set j { c with d := d' }) σ H' ∧ St true H H') ∧
    ∀ H' d' v2 d2, Hk ⟨H, [G]⟩ [⟨v2, d2, none⟩, ⟨c.v, d', some 0⟩] H' → OkN true F Γ H v2 d2 (Δ.set j { c with d := d' }) σ H' ∧ St true H H' := by
  obtain ⟨⟨Δ0, e, k⟩, n⟩ := ok
  subst e
  obtain ⟨A, x, B, e0, el, ex⟩ := map_at hj
  subst e0
  subst ex
  have k1 : HkO F ([x] ++ (A ++ B)) H := k.perm mid_perm
  have nd := (k.perm mid_perm).ndup.1
  refine ⟨x.G, k1.del x List.mem_cons_self, nd, fun H' d' hk => ?_, fun H' d' v2 d2 hk => ?_⟩
  · obtain ⟨Δ1, e1, hk⟩ := hk
    obtain ⟨yG, e2⟩ := map_one e1
    subst e2
    ·
      obtain ⟨r, st, _⟩ := lendO (Δ1 := [x]) (N := []) (Δ1' := [⟨yG, x.v, d', some 0⟩]) (Δ1o := [⟨yG, x.v, d', x.prm⟩]) k1 hk rfl (fun i c h => by
        match i, h with
        | 0, h => cases h; rfl
        | _ + 1, h => cases h) (fun _ h => nomatch h) rfl (fun i c c' e h1 h2 h3 => by
        match i, h1, h2, h3 with
        | 0, h1, h2, h3 => cases h1; cases h2; cases h3; rfl
        | _ + 1, h1, _, _ => cases h1)
      refine ⟨⟨⟨A ++ ⟨yG, x.v, d', x.prm⟩ :: B, ?_, HkO.perm (Δ := ⟨yG, x.v, d', x.prm⟩ :: (A ++ B)) r mid_perm.symm⟩, n.mono st.fz⟩, st⟩
      rw [← el]
      exact map_set
  · obtain ⟨Δ1, e1, hk⟩ := hk
    obtain ⟨zG, yG, e2⟩ := map_two e1
    subst e2
    ·
      obtain ⟨r, st, nw⟩ := lendO (Δ1 := [x]) (N := [⟨zG, v2, d2, none⟩]) (Δ1' := [⟨yG, x.v, d', some 0⟩]) (Δ1o := [⟨yG, x.v, d', x.prm⟩]) k1 hk rfl (fun i c h => by
        match i, h with
        | 0, h => cases h; rfl
        | _ + 1, h => cases h) (fun c h => by rw [List.mem_singleton.mp h]) rfl (fun i c c' e h1 h2 h3 => by
        match i, h1, h2, h3 with
        | 0, h1, h2, h3 => cases h1; cases h2; cases h3; rfl
        | _ + 1, h1, _, _ => cases h1)
      refine ⟨⟨A ++ ⟨yG, x.v, d', x.prm⟩ :: B, zG, ?_, HkO.perm (Δ := ⟨zG, v2, d2, none⟩ :: ⟨yG, x.v, d', x.prm⟩ :: (A ++ B)) r (List.Perm.cons _ mid_perm.symm), (fun h => nomatch h), n.mono st.fz⟩, st⟩
      rw [← el]
      exact map_set
end
end L3
end
section
set_option maxHeartbeats 4000000
namespace L3
open PySem PySem.Spec PyProof.Rows L2
def WalkF {α : Type} (J : It) (Ex : α → Pd) (xs : List α) (H : Hp) : Prop := ∀ H', Fzs H H' → ∀ i, (i < xs.length → J.go i H') ∧ (xs.length ≤ i → J.stop i H') ∧ ∀ x v H'', xs[i]? = some x → J.yld i H' v H'' → Gr H' H'' ∧ (Ex x).pr H'' v
def tI {α β γ : Type} (W : Bool) (F : Fm) (Γ : Gm) (Δ : Δs) (T : Option γ) (k : β → Option γ) (Ex : α → Pd) (xs : β → List α) (Δ' : β → Δs) : TI := fun σ H R =>
  Ok F Γ Δ σ H ∧ ∃ g, T = some g ∧ ∀ b J H', k b = some g → St W H H' → Ok F Γ (Δ' b) σ H' → (xs b).length ≤ sizeLine → WalkF J Ex (xs b) H' → R J H'
def forS {α S : Type} : List α → S → (α → S → Option S) → Option S
  | [], s, _ => some s
  | x :: xs, s, f => (f x s).bind fun s' => forS xs s' f
def forL {α S ρ : Type} : List α → S → (α → S → Option (Bo S (Tm S ρ))) → Option (Bo S ρ)
  | [], s, _ => some (.nx s)
  | x :: xs, s, f => (f x s).bind fun o => match o with
    | .nx s' => forL xs s' f
    | .tm (.ct s') => forL xs s' f
    | .tm (.bk s') => some (.nx s')
    | .tm (.rt r) => some (.tm r)
def rngL (lo : Int) (n : Nat) : List Int := (List.range n).map fun (i : Nat) => lo + (i : Int)
def rg (n : Int) : Bool := decide (-(2 ^ 62) ≤ n) && decide (n ≤ 16777216)
theorem rngL_len (lo : Int) (n : Nat) : (rngL lo n).length = n := by unfold rngL; rw [List.length_map, List.length_range]
section
variable {X : Cx} {W : Bool} {F : Fm} {Γ : Gm} {Δ : Δs} {γ : Type}
theorem _root_.L2.PI.wk {tg iter : Expr} {t t' : TI} (h : PI X tg iter t) (w : ∀ σ H R, t' σ H R → t σ H R) : PI X tg iter t' := ⟨fun pins s σ H R I q => h.run pins s σ H R I (w σ H R q)⟩
theorem i_list {tg l : Expr} {α β : Type} {T : Option γ} {k : β → Option γ} {Ex : α → Pd} {xs : β → List α} {Δ' : β → Δs} (he : PE X l (tE W F Γ Δ T k (fun b => pL Ex (xs b)) Δ')) : PI X tg l (tI W F Γ Δ T k Ex xs Δ') :=
  (pi_list he).wk fun σ H R ⟨ok, g, e, q⟩ => ⟨ok, g, e, fun b v H' kb f ok' ⟨a, o, vs, ev, h, z, p⟩ => ⟨a, ev, ⟨vs, .inl (.inr ⟨o, h⟩)⟩, q b _ H' kb f ok' z fun H2 f2 i => by
    have h2 : SqL X.K H2 a vs := .inl (.inr ⟨o, f2 _ _ trivial h⟩)
    refine ⟨fun hi => ?_, fun hi => ⟨vs, h2, by rw [← paired_len p]; exact hi⟩, fun x v H3 hx hy => ?_⟩
    · obtain ⟨u, hu, _⟩ := paired_at p (List.getElem?_eq_getElem hi)
      exact ⟨vs, u, h2, hu⟩
    · obtain ⟨e3, hy⟩ := hy
      obtain ⟨u, hu, pu⟩ := paired_at p hx
      have e4 := hy vs h2
      rw [hu] at e4
      cases e4
      subst e3
      exact ⟨Gr.refl _, (Ex x).mono f2 pu⟩⟩⟩
theorem rng_walk {lo : Int} {n : Nat} {H : Hp} : WalkF (Itr lo n) pInt (rngL lo n) H := fun H2 f2 i => by
  have hl : (rngL lo n).length = n := by unfold rngL; rw [List.length_map, List.length_range]
  rw [hl]
  refine ⟨fun h => h, fun h => h, fun x v H3 hx hy => ?_⟩
  obtain ⟨e1, e2⟩ := hy
  subst e1
  refine ⟨Gr.refl _, ?_⟩
  unfold rngL at hx
  rw [List.getElem?_map] at hx
  cases hr : (List.range n)[i]? with
  | none => rw [hr] at hx; cases hx
  | some m =>
    rw [hr] at hx
    have hi : i < n := by
      have := (List.getElem?_eq_some_iff.mp hr).1
      rwa [List.length_range] at this
    rw [List.getElem?_range hi] at hr
    cases hr
    have hx : lo + (i : Int) = x := by simpa using hx
    rw [← hx]
    exact e2
theorem i_rng1 {tg a : Expr} {p pos : Pos} {β : Type} {T : Option γ} {k : β → Option γ} {n : β → Int} {Δ' : β → Δs} (hm : X.mg "range" = none) (he : PE X a (tE W F Γ Δ T (fun b => grd (rg (n b) = true) (k b)) (fun b => pInt (n b)) Δ')) (hg : Gl X "range" := by rfl)
    (hs : starEach [a] X.env = [(false, eval a X.env)] := by rfl) : PI X tg (.Call (.Name "range" p) [a] [] pos) (tI W F Γ Δ T k pInt (fun b => rngL 0 (n b).toNat) Δ') :=
  (pi_range1 hg hm (pa_cons he pa_nil hs) hs).wk fun σ H R ⟨ok, g, e, q⟩ => ⟨ok, g, e, fun b v H' kb f ok' hv => by
    obtain ⟨c, kb⟩ := grd_some kb
    obtain ⟨c1, c2⟩ := Bool.and_eq_true_iff.mp c
    have hv : v = .int (n b) := hv
    subst hv
    have c2 := of_decide_eq_true c2
    exact ⟨n b, rfl, of_decide_eq_true c1, by omega, q b _ H' kb f ok' (by rw [rngL_len]; have : sizeLine = 16777216 := rfl; omega) rng_walk⟩⟩
def Tgt {α : Type} (g : TG) (Ex : α → Pd) (bd : Gm → α → Gm) : Prop := ∀ (F : Fm) (Γ : Gm) (Δ : Δs) (σ : SS) (H : Hp) (x : α) (v : V) (Q : SS → Hp → Prop), Ok F Γ Δ σ H → (Ex x).pr H v → (∀ σ', Ok F (bd Γ x) Δ σ' H → Q σ' H) → g v σ H Q
theorem tg_name {α : Type} {Ex : α → Pd} (i : Nat) : Tgt (gName i) Ex (fun Γ x => Γ.set i (some (Ex x))) := fun _ _ _ _ _ _ _ _ ok hv q => q _ (ok.set hv)
variable {N : Fn γ} {rest : List Stmt}
theorem drop_cons {α : Type} {xs : List α} {i : Nat} (h : i < xs.length) : ∃ x, xs[i]? = some x ∧ xs.drop i = x :: xs.drop (i + 1) := ⟨xs[i], List.getElem?_eq_getElem h, List.drop_eq_getElem_cons h⟩
theorem s_for {tg iter : Expr} {body : List Stmt} {pos : Pos} {g : TG} {α β S ρ : Type} {T : Option γ} {Ex : α → Pd} {bd : Gm → α → Gm} {xs : β → List α} {Δ' : β → Δs} {f : β → α → S → Option (Bo S (Tm S ρ))} {k2 : β → S → Option γ} {ι : ρ → γ} {R : Rt ρ} (hp : PassesOwn (model X.prog X.w) X.A X.env X.xe) (C : β → S → Cxt) (s0 : β → S)
    (hi : PI X tg iter (tI true F Γ Δ T (fun b => (forL (xs b) (s0 b) (f b)).bind (boK (k2 b) ι)) Ex xs Δ')) (hg : PG X tg g) (ht : Tgt g Ex bd) (h0 : ∀ b, SubG (C b (s0 b)).1 Γ) (h0d : ∀ b, (C b (s0 b)).2.Sublist (Δ' b))
    (hb : ∀ b x s, PSs X body (tS F (bd (C b s).1 x) (C b s).2 (fB F (C b) (fT F (C b) R)) (f b x s))) (hr : ∀ b s, PSs X rest (tS F (C b s).1 (C b s).2 N (k2 b s))) (hN : ∀ H r D, N.fin H (ι r) D → R r D.rt) (hc : X.calm = true := by rfl) (hfs : ∀ x, foldedSetIterable iter X.env x = pure x := by intro _; rfl) :
    PSs X (.For tg iter body [] pos :: rest) (tS F Γ Δ N T) :=
  (pss_cons (ps_for hp hc hi hg (pss_ex fun b => pss_ex fun x => pss_ex fun s => hb b x s) hfs) (pss_ex fun b => pss_ex fun s => hr b s)).wk fun D σ H ⟨ok, gg, e, fin⟩ => ⟨ok, gg, e, fun b J H1 kb f1 ok1 _ wk => by
    obtain ⟨o, eo, ko⟩ := bind_some kb
    refine ⟨fun i m σ' H' => i + m = (xs b).length ∧ Fzs H1 H' ∧ ∃ s, Ok F (C b s).1 (C b s).2 σ' H' ∧ forL ((xs b).drop i) s (f b) = some o, ⟨(xs b).length, Nat.zero_add _, Fzs.refl _, s0 b, ok1.wk (h0 b) (h0d b), by rw [List.drop_zero]; exact eo⟩, fun i m σ2 H2 ⟨em, fz2, s, ok2, e2⟩ => ?_⟩
    by_cases hi : i < (xs b).length
    · obtain ⟨x, hx, ed⟩ := drop_cons hi
      rw [ed] at e2
      have e2 : (f b x s).bind _ = some o := e2
      obtain ⟨ob, eb, e2⟩ := bind_some e2
      refine .inr ⟨((wk H2 fz2) i).1 hi, fun σ3 H3 => (i + 1) + (m - 1) = (xs b).length ∧ Fzs H1 H3 ∧ ∃ s, Ok F (C b s).1 (C b s).2 σ3 H3 ∧ forL ((xs b).drop (i + 1)) s (f b) = some o, fun σ3 H3 h3 => ⟨m - 1, by omega, h3⟩, fun v H3 hy => ?_⟩
      obtain ⟨gr3, pv⟩ := ((wk H2 fz2) i).2.2 x v H3 hx hy
      refine ht F _ _ σ2 H3 x v _ (ok2.gr gr3) pv fun σ4 ok4 => ⟨b, x, s, ok4, ob, eb, ?_⟩
      cases ob with
      | nx s' => exact fun σ5 H5 f5 ok5 => ⟨by omega, (fz2.trans gr3.fzs).trans f5, s', ok5, e2⟩
      | tm t =>
        cases t with
        | ct s' => exact fun σ5 H5 f5 ok5 => ⟨by omega, (fz2.trans gr3.fzs).trans f5, s', ok5, e2⟩
        | bk s' =>
          have e2 : some (Bo.nx s') = some o := e2
          cases e2
          exact fun σ5 H5 f5 ok5 => ⟨b, s', ok5, gg, ko, N.mono fin (f1.fz.trans ((fz2.trans gr3.fzs).trans f5))⟩
        | rt r =>
          have e2 : some (Bo.tm r) = some o := e2
          cases e2
          have ko : some (ι r) = some gg := ko
          cases ko
          exact hN H r D fin
    · refine .inl ⟨((wk H2 fz2) i).2.1 (by omega), ?_⟩
      rw [List.drop_eq_nil_of_le (by omega)] at e2
      have e2 : some (Bo.nx s) = some o := e2
      cases e2
      exact ⟨b, s, ok2, gg, ko, N.mono fin (f1.fz.trans fz2)⟩⟩
theorem s_forS {tg iter : Expr} {body : List Stmt} {pos : Pos} {g : TG} {α β S : Type} {T : Option γ} {Ex : α → Pd} {bd : Gm → α → Gm} {xs : β → List α} {Δ' : β → Δs} {f : β → α → S → Option S} {k2 : β → S → Option γ} (hp : PassesOwn (model X.prog X.w) X.A X.env X.xe) (C : β → S → Cxt) (s0 : β → S)
    (hi : PI X tg iter (tI true F Γ Δ T (fun b => (forS (xs b) (s0 b) (f b)).bind (k2 b)) Ex xs Δ')) (hg : PG X tg g) (ht : Tgt g Ex bd) (h0 : ∀ b, SubG (C b (s0 b)).1 Γ) (h0d : ∀ b, (C b (s0 b)).2.Sublist (Δ' b))
    (hb : ∀ b x s, PSs X body (tS F (bd (C b s).1 x) (C b s).2 (fN F (C b)) (f b x s))) (hr : ∀ b s, PSs X rest (tS F (C b s).1 (C b s).2 N (k2 b s))) (hc : X.calm = true := by rfl) (hfs : ∀ x, foldedSetIterable iter X.env x = pure x := by intro _; rfl) :
    PSs X (.For tg iter body [] pos :: rest) (tS F Γ Δ N T) :=
  (pss_cons (ps_for hp hc hi hg (pss_ex fun b => pss_ex fun x => pss_ex fun s => hb b x s) hfs) (pss_ex fun b => pss_ex fun s => hr b s)).wk fun D σ H ⟨ok, gg, e, fin⟩ => ⟨ok, gg, e, fun b J H1 kb f1 ok1 _ wk => by
    obtain ⟨o, eo, ko⟩ := bind_some kb
    refine ⟨fun i m σ' H' => i + m = (xs b).length ∧ Fzs H1 H' ∧ ∃ s, Ok F (C b s).1 (C b s).2 σ' H' ∧ forS ((xs b).drop i) s (f b) = some o, ⟨(xs b).length, Nat.zero_add _, Fzs.refl _, s0 b, ok1.wk (h0 b) (h0d b), by rw [List.drop_zero]; exact eo⟩, fun i m σ2 H2 ⟨em, fz2, s, ok2, e2⟩ => ?_⟩
    by_cases hi : i < (xs b).length
    · obtain ⟨x, hx, ed⟩ := drop_cons hi
      rw [ed] at e2
      have e2 : (f b x s).bind _ = some o := e2
      obtain ⟨s', eb, e2⟩ := bind_some e2
      refine .inr ⟨((wk H2 fz2) i).1 hi, fun σ3 H3 => (i + 1) + (m - 1) = (xs b).length ∧ Fzs H1 H3 ∧ ∃ s, Ok F (C b s).1 (C b s).2 σ3 H3 ∧ forS ((xs b).drop (i + 1)) s (f b) = some o, fun σ3 H3 h3 => ⟨m - 1, by omega, h3⟩, fun v H3 hy => ?_⟩
      obtain ⟨gr3, pv⟩ := ((wk H2 fz2) i).2.2 x v H3 hx hy
      exact ht F _ _ σ2 H3 x v _ (ok2.gr gr3) pv fun σ4 ok4 => ⟨b, x, s, ok4, s', eb, fun σ5 H5 f5 ok5 => ⟨by omega, (fz2.trans gr3.fzs).trans f5, s', ok5, e2⟩⟩
    · refine .inl ⟨((wk H2 fz2) i).2.1 (by omega), ?_⟩
      rw [List.drop_eq_nil_of_le (by omega)] at e2
      have e2 : s = o := Option.some.inj e2
      rw [e2] at ok2
      exact ⟨b, o, ok2, gg, ko, N.mono fin (f1.fz.trans fz2)⟩⟩
end
end L3
end
section
set_option maxHeartbeats 4000000
namespace L3
open PySem PySem.Spec PyProof.Rows L2
def compM {α δ S : Type} : List α → S → (α → S → Option (Option δ × S)) → Option (List δ × S)
  | [], s, _ => some ([], s)
  | x :: xs, s, f => (f x s).bind fun o => (compM xs o.2 f).bind fun r => some ((match o.1 with | none => r.1 | some y => y :: r.1), r.2)
theorem compM_len {α δ S : Type} {f : α → S → Option (Option δ × S)} : ∀ {xs : List α} {s : S} {r : List δ × S}, compM xs s f = some r → r.1.length ≤ xs.length
  | [], s, r, h => by cases h; exact Nat.le_refl _
  | x :: xs, s, r, h => by
    obtain ⟨o, _, h⟩ := bind_some (show (f x s).bind _ = some r from h)
    obtain ⟨q, hq, h⟩ := bind_some h
    have ih := compM_len hq
    cases h
    cases o.1 with
    | none => exact Nat.le_succ_of_le ih
    | some y => exact Nat.succ_le_succ ih
def wipeG (Γ : Gm) : List Nat → Gm
  | [] => Γ
  | v :: vs => (wipeG Γ vs).set v none
theorem wipeG_length (Γ : Gm) : ∀ vs : List Nat, (wipeG Γ vs).length = Γ.length
  | [] => rfl
  | v :: vs => by unfold wipeG; rw [List.length_set, wipeG_length Γ vs]
theorem wipe_get {Γ : Gm} {σ : SS} {p : Pd} {i : Nat} : ∀ {vs : List Nat}, (wipeG Γ vs)[i]? = some (some p) → Γ[i]? = some (some p) ∧ (wipe σ vs)[i]? = σ[i]?
  | [], h => ⟨h, rfl⟩
  | v :: vs, h => by
    unfold wipeG at h
    by_cases e : i = v
    · subst e
      by_cases l : i < (wipeG Γ vs).length
      · rw [List.getElem?_set_self l] at h; cases h
      · rw [List.getElem?_eq_none (by rw [List.length_set]; omega)] at h; cases h
    · rw [List.getElem?_set_ne (fun z => e z.symm)] at h
      obtain ⟨h1, h2⟩ := wipe_get h
      refine ⟨h1, ?_⟩
      unfold wipe
      rw [List.getElem?_set_ne (fun z => e z.symm)]
      exact h2
theorem Ok.wipe {F : Fm} {Γ : Gm} {Δ Δ' : Δs} {σ : SS} {H H' : Hp} (k : Ok F Γ Δ σ H) (f : Fzs H H') (h : Hk F Δ' H') (vs : List Nat) : Ok F (wipeG Γ vs) Δ' (L2.wipe σ vs) H' :=
  ⟨h, by rw [wipe_length, wipeG_length]; exact k.len, fun i p e => by
    obtain ⟨e1, e2⟩ := wipe_get (σ := σ) e
    obtain ⟨v, hs, hv⟩ := k.gam i p e1
    exact ⟨v, e2.trans hs, p.mono f hv⟩⟩
theorem perm_lift {A B : Δs} (p : A.Perm B) : ∀ {Δ0 : List Cel}, Δ0.map Cel.fg = A → ∃ Δ1 : List Cel, Δ0.Perm Δ1 ∧ Δ1.map Cel.fg = B := by
  induction p with
  | nil => intro Δ0 e; exact ⟨Δ0, List.Perm.refl _, e⟩
  | cons x _ ih =>
    intro Δ0 e
    cases Δ0 with
    | nil => cases e
    | cons y r =>
      rw [List.map_cons] at e
      injection e with e1 e2
      obtain ⟨Δ1, q, e3⟩ := ih e2
      exact ⟨y :: Δ1, q.cons y, by rw [List.map_cons, e3, e1]⟩
  | swap x y l =>
    intro Δ0 e
    cases Δ0 with
    | nil => cases e
    | cons a r =>
      cases r with
      | nil => cases e
      | cons b r =>
        have e' : a.fg = y ∧ b.fg = x ∧ r.map Cel.fg = l := by simpa using e
        exact ⟨b :: a :: r, List.Perm.swap _ _ _, by rw [List.map_cons, List.map_cons, e'.1, e'.2.1, e'.2.2]⟩
  | trans _ _ ih1 ih2 =>
    intro Δ0 e
    obtain ⟨Δ1, q1, e1⟩ := ih1 e
    obtain ⟨Δ2, q2, e2⟩ := ih2 e1
    exact ⟨Δ2, q1.trans q2, e2⟩
theorem Hk.perm {F : Fm} {Δ Δ' : Δs} {H : Hp} (k : Hk F Δ H) (p : Δ.Perm Δ') : Hk F Δ' H := by
  obtain ⟨Δ0, e, k⟩ := k
  obtain ⟨Δ1, q, e1⟩ := perm_lift p e
  exact ⟨Δ1, e1, k.perm q⟩
theorem Hk.one {W : Bool} {F : Fm} {Δ : Δs} {H H0 : Hp} {D : Addr} {α : Type} {E : α → Pd} {xs : List α} {Γ : Gm} {σ : SS} (k : Hk F (⟨.ref D, oL E xs, none⟩ :: Δ) H) (n : Nm Γ σ H) (h0 : H0 D = none) : OkN W F Γ H0 (.ref D) (oL E xs) Δ σ H := by
  obtain ⟨Δ0, e, k⟩ := k
  cases Δ0 with
  | nil => cases e
  | cons y r =>
    obtain ⟨yG, yv, yd, yp⟩ := y
    have e' : (⟨yv, yd, yp⟩ : Cell) = ⟨.ref D, oL E xs, none⟩ ∧ r.map Cel.fg = Δ := by simpa [Cel.fg] using e
    obtain ⟨e1, e2⟩ := e'
    cases e1
    obtain ⟨p, vs, eG, ev, _⟩ := k.del _ List.mem_cons_self
    cases ev
    have eG : yG = [D] := eG
    subst eG
    exact ⟨r, [D], e2, k, fun _ a ha => by rw [List.mem_singleton.mp ha]; exact h0, n⟩
def TgtW {α : Type} (g : TG) (Ex : α → Pd) (bd : Gm → α → Gm) (vs : List Nat) : Prop := ∀ (F : Fm) (Γ : Gm) (Δ : Δs) (σ : SS) (H : Hp) (x : α) (v : V) (Q : SS → Hp → Prop), Ok F (wipeG Γ vs) Δ (L2.wipe σ vs) H → (Ex x).pr H v → (∀ σ', L2.wipe σ' vs = L2.wipe σ vs → Ok F (bd (wipeG Γ vs) x) Δ σ' H → Q σ' H) → g v (L2.wipe σ vs) H Q
theorem tw_name {α : Type} {Ex : α → Pd} (i : Nat) : TgtW (gName i) Ex (fun Γ x => Γ.set i (some (Ex x))) [i] := fun _ _ _ σ _ _ _ _ ok hv q => q _ (by
  show ((σ.set i none).set i _).set i none = σ.set i none
  rw [List.set_set, List.set_set]) (ok.set hv)
theorem tw_pair {α β : Type} {E1 : α → Pd} {E2 : β → Pd} {K : PySem.W.Frag} (i j : Nat) (hij : i ≠ j) : TgtW (gTup K 2 (gCons (gName i) (gCons (gName j) gNil))) (pT2 E1 E2) (fun Γ x => (Γ.set i (some (E1 x.1))).set j (some (E2 x.2))) [i, j] :=
  fun _ _ _ σ _ _ _ _ ok ⟨a, u, w, ev, h, p1, p2⟩ q => ⟨a, [u, w], ev, .inl (.inl h), rfl, u, [w], rfl, w, [], rfl, rfl, q _ (by
    show (((((σ.set j none).set i none).set i _).set j _).set j none).set i none = (σ.set j none).set i none
    rw [List.set_set, List.set_set, List.set_comm _ _ hij, List.set_set, List.set_set]) ((ok.set p1).set p2)⟩
section
variable {X : Cx} {W : Bool} {F : Fm} {Γ : Gm} {Δ : Δs} {γ : Type}
abbrev Blk (X : Cx) (scope : Scope) (P : Cx → Prop) : Prop := ∀ (s : Shared) (H : Hp) (C : Addr) (cl : List (Str × Addr)) (fp : List Addr), P (X.blk s H scope (compEnvC scope cl C X.env) fp)
section
variable {α β β2 β3 δ S : Type} {g : TG} {own : List (Str × Nat)} {T : Option γ} {k0 : β → Option γ} {k : β × (List δ × S) → Option γ} {out : β × (List δ × S) → List δ} {Ex : α → Pd} {Ee : δ → Pd} {bd : Gm → α → Gm} {xs : β → List α} {Δ1 : β → Δs} {C : β → S → Δs} {s0 : β → S} {f : β → α → S → Option (Option δ × S)}
    {c : β → α → S → β2 → Bool} {s2 : β → α → S → β2 → S} {T2 : β → α → S → β2 → Option (Option δ × S)} {y : β → α → S → β2 → β3 → δ} {s3 : β → α → S → β2 → β3 → S}
abbrev lcT (W : Bool) (F : Fm) (Γ : Gm) (own : List (Str × Nat)) (bd : Gm → α → Gm) (C : β → S → Δs) (f : β → α → S → Option (Option δ × S)) (c : β → α → S → β2 → Bool) (s2 : β → α → S → β2 → S) (T2 : β → α → S → β2 → Option (Option δ × S)) : TT := fun σ H Q => ∃ d b x s, tTs W F (bd (wipeG Γ (own.map (·.2))) x) (C b s ++ [d]) (f b x s) (fun b2 => if c b x s b2 = true then T2 b x s b2 else some (none, s2 b x s b2)) (c b x s) (fun b2 => C b (s2 b x s b2) ++ [d]) σ H Q
abbrev lcE (W : Bool) (F : Fm) (Γ : Gm) (own : List (Str × Nat)) (bd : Gm → α → Gm) (C : β → S → Δs) (s2 : β → α → S → β2 → S) (T2 : β → α → S → β2 → Option (Option δ × S)) (Ee : δ → Pd) (y : β → α → S → β2 → β3 → δ) (s3 : β → α → S → β2 → β3 → S) : TE := fun σ H Q => ∃ d b x s b2, tE W F (bd (wipeG Γ (own.map (·.2))) x) (C b (s2 b x s b2) ++ [d]) (T2 b x s b2) (fun b3 => some (some (y b x s b2 b3), s3 b x s b2 b3)) (fun b3 => Ee (y b x s b2 b3)) (fun b3 => C b (s3 b x s b2 b3) ++ [d]) σ H Q
theorem lc_imp (hrun : ∀ b g, k0 b = some g → ∃ r, compM (xs b) (s0 b) (f b) = some r ∧ k (b, r) = some g) (hout : ∀ b r, compM (xs b) (s0 b) (f b) = some r → out (b, r) = r.1) (ht : TgtW g Ex bd (own.map (·.2))) (h0 : ∀ b, Δ1 b = C b (s0 b)) :
    ∀ σ H Q, tO W F Γ Δ T k (fun b => oL Ee (out b)) (fun b => C b.1 b.2.2) σ H Q → tLc (tI W F Γ Δ T k0 Ex xs Δ1) g (lcT W F Γ own bd C f c s2 T2) (lcE W F Γ own bd C s2 T2 Ee y s3) (own.map (·.2)) σ H Q :=
  fun σ H Q ⟨ok0, gg, e, q⟩ => ⟨ok0, gg, e, fun b J H1 kb f1 ok1 zl wk D nD => by
    obtain ⟨⟨ys, sf⟩, er, kr⟩ := hrun b gg kb
    have grD : Gr H1 (upd H1 D (.lst [])) := Gr.new nD
    have hk0 : Hk F (C b (s0 b) ++ [⟨.ref D, oL Ee [], none⟩]) (upd H1 D (.lst [])) := by
      rw [← h0 b]
      exact (ok1.newL (W := true) (E := Ee) (xs := []) nD (Nat.zero_le _) .nil).1.ok.hk.perm (List.perm_append_singleton _ _).symm
    refine ⟨fun i m H' => i + m = (xs b).length ∧ St W H1 H' ∧ ∃ s acc ys', Hk F (C b s ++ [⟨.ref D, oL Ee acc, none⟩]) H' ∧ compM ((xs b).drop i) s (f b) = some (ys', sf) ∧ acc ++ ys' = ys, ⟨(xs b).length, Nat.zero_add _, grD.st, s0 b, [], ys, hk0, by rw [List.drop_zero]; exact er, rfl⟩, fun i m H2 ⟨em, st2, s, acc, ys', hk2, ec, ea⟩ => ?_⟩
    by_cases hi : i < (xs b).length
    · obtain ⟨x, hx, ed⟩ := drop_cons hi
      rw [ed] at ec
      obtain ⟨o, eo, ec⟩ := bind_some (show (f b x s).bind _ = some (ys', sf) from ec)
      obtain ⟨r, erc, ec⟩ := bind_some ec
      refine .inr ⟨((wk H2 st2.fz) i).1 hi, fun H' => (i + 1) + (m - 1) = (xs b).length ∧ St W H1 H' ∧ ∃ s acc ys', Hk F (C b s ++ [⟨.ref D, oL Ee acc, none⟩]) H' ∧ compM ((xs b).drop (i + 1)) s (f b) = some (ys', sf) ∧ acc ++ ys' = ys, fun H' h => ⟨m - 1, by omega, h⟩, fun v H3 hy => ?_⟩
      obtain ⟨gr3, pv⟩ := ((wk H2 st2.fz) i).2.2 x v H3 hx hy
      have st3 : St W H1 H3 := st2.trans gr3.st
      refine ht F Γ _ σ H3 x v _ (ok1.wipe st3.fz (hk2.gr gr3) _) pv fun σ4 ew ok4 => ⟨ew, ⟨.ref D, oL Ee acc, none⟩, b, x, s, ok4, o, eo, fun b2 H5 kb2 st5 ok5 => ?_⟩
      try dsimp only at kb2
      cases hcb : c b x s b2 with
      | false =>
        rw [if_neg (by rw [hcb]; exact Bool.false_ne_true)] at kb2
        cases kb2
        cases ec
        exact iteF ⟨by omega, st3.trans st5, s2 b x s b2, acc, r.1, ok5.hk, erc, ea⟩
      | true =>
        rw [if_pos hcb] at kb2
        refine iteT ⟨⟨.ref D, oL Ee acc, none⟩, b, x, s, b2, ok5, o, kb2, fun b3 w H6 kb3 st6 ok6 hw => ?_⟩
        cases kb3
        cases ec
        have hlast : (C b (s3 b x s b2 b3) ++ [⟨.ref D, oL Ee acc, none⟩])[(C b (s3 b x s b2 b3)).length]? = some ⟨.ref D, oL Ee acc, none⟩ := by rw [List.getElem?_append_right (Nat.le_refl _), Nat.sub_self]; rfl
        obtain ⟨G', ⟨D', vs, eG, eD, hD, zD, pD⟩, _, turn⟩ := ok6.hk.cell hlast
        cases eD
        subst eG
        have hlen : acc.length < sizeLine := by
          have l1 := compM_len erc
          have l2 : (acc ++ y b x s b2 b3 :: r.1).length = ys.length := congrArg List.length ea
          have l3 := compM_len er
          rw [List.length_append, List.length_cons] at l2
          have : ys.length ≤ (xs b).length := l3
          omega
        have fzm : Fzs H6 (upd H6 D (.lst (vs ++ [w]))) := Fzs.mut hD fun z => z
        obtain ⟨hk7, st7⟩ := turn (upd H6 D (.lst (vs ++ [w]))) (oL Ee (acc ++ [y b x s b2 b3])) (fun a o na e => by
          rw [upd_ne fun z => na (by rw [z]; exact List.mem_singleton.mpr rfl)]; exact e)
          ⟨D, vs ++ [w], rfl, rfl, upd_same, by rw [List.length_append, List.length_singleton]; omega, paired_app (paired_mono (fun x _ => (Ee x).mono fzm) pD) (.cons ((Ee _).mono fzm hw) .nil)⟩
        refine ⟨vs, hD, by rw [← paired_len pD]; exact hlen, by omega, ⟨((st3.fz.trans st5.fz).trans st6.fz).trans st7.fz, fun hw a o e => ?_, fun a o e => ?_⟩, s3 b x s b2 b3, acc ++ [y b x s b2 b3], r.1, ?_, erc, by rw [List.append_assoc]; exact ea⟩
        · rw [upd_ne (ne_of_none e nD)]
          exact ((st3.trans st5).trans st6).kp hw a o e
        · obtain ⟨u, eu⟩ := ((st3.trans st5).trans st6).dom a o e
          exact upd_dom _ _ a u eu
        · rw [List.set_append_right _ _ (Nat.le_refl _), Nat.sub_self] at hk7
          exact hk7
    · refine .inl ⟨((wk H2 st2.fz) i).2.1 (by omega), ?_⟩
      rw [List.drop_eq_nil_of_le (by omega)] at ec
      have ec : some (([] : List δ), s) = some (ys', sf) := ec
      cases ec
      rw [List.append_nil] at ea
      subst ea
      have hkf := hk2.perm (List.perm_append_singleton _ _)
      rw [show acc = out (b, (acc, _)) from (hout b _ er).symm] at hkf
      exact q (b, (acc, _)) _ H2 kr (f1.trans st2) (hkf.one (ok1.nm.mono st2.fz) (f1.back nD))⟩
theorem x_lc0 {elt tg iter : Expr} {ifs : List Expr} {scope : Scope} {pos : Pos} (nd : X.N.Nodup)
    (hi : PI X tg iter (tI W F Γ Δ T k0 Ex xs Δ1)) (hrun : ∀ b g, k0 b = some g → ∃ r, compM (xs b) (s0 b) (f b) = some r ∧ k (b, r) = some g) (hout : ∀ b r, compM (xs b) (s0 b) (f b) = some r → out (b, r) = r.1) (ok : BlkOk X.N X.env.scope scope own) (hg : Blk X scope fun Y => PG Y tg g) (ht : TgtW g Ex bd (own.map (·.2))) (h0 : ∀ b, Δ1 b = C b (s0 b))
    (hc : ∀ d, Blk X scope fun Y => ∀ b x s, PTs Y ifs (tTs W F (bd (wipeG Γ (own.map (·.2))) x) (C b s ++ [d]) (f b x s) (fun b2 => if c b x s b2 = true then T2 b x s b2 else some (none, s2 b x s b2)) (c b x s) fun b2 => C b (s2 b x s b2) ++ [d]))
    (he : ∀ d, Blk X scope fun Y => ∀ b x s b2, PE Y elt (tE W F (bd (wipeG Γ (own.map (·.2))) x) (C b (s2 b x s b2) ++ [d]) (T2 b x s b2) (fun b3 => some (some (y b x s b2 b3), s3 b x s b2 b3)) (fun b3 => Ee (y b x s b2 b3)) fun b3 => C b (s3 b x s b2 b3) ++ [d]))
    (hcm : X.calm = true := by rfl) (hs : ∀ x, foldedSetIterable iter X.env x = pure x := by intro _; rfl) :
    PE X (.ListComp elt [⟨tg, iter, ifs, 0⟩] scope pos) (tO W F Γ Δ T k (fun b => oL Ee (out b)) fun b => C b.1 b.2.2) :=
  (pe_lc hcm nd hi ok hg (tt := lcT W F Γ own bd C f c s2 T2) (fun s H Cc cl fp => ⟨fun pins s' σ H Q I ⟨d, b, x, s'', h⟩ => (hc d s _ Cc cl fp b x s'').run pins s' σ H Q I h⟩) (te := lcE W F Γ own bd C s2 T2 Ee y s3) (fun s H Cc cl fp => ⟨fun pins s' σ H Q I ⟨d, b, x, s'', b2, h⟩ => (he d s _ Cc cl fp b x s'' b2).run pins s' σ H Q I h⟩) hs).wk (lc_imp hrun hout ht h0)
theorem a_lc0 {elt tg iter : Expr} {ifs : List Expr} {scope : Scope} {pos py spos : Pos} {i : Nat} {yv : Str} (nd : X.N.Nodup)
    (hi : PI X tg iter (tI W F Γ Δ T k0 Ex xs Δ1)) (hrun : ∀ b g, k0 b = some g → ∃ r, compM (xs b) (s0 b) (f b) = some r ∧ k (b, r) = some g) (hout : ∀ b r, compM (xs b) (s0 b) (f b) = some r → out (b, r) = r.1) (ok : BlkOk X.N X.env.scope scope own) (hg : Blk X scope fun Y => PG Y tg g) (ht : TgtW g Ex bd (own.map (·.2))) (h0 : ∀ b, Δ1 b = C b (s0 b))
    (hc : ∀ d, Blk X scope fun Y => ∀ b x s, PTs Y ifs (tTs W F (bd (wipeG Γ (own.map (·.2))) x) (C b s ++ [d]) (f b x s) (fun b2 => if c b x s b2 = true then T2 b x s b2 else some (none, s2 b x s b2)) (c b x s) fun b2 => C b (s2 b x s b2) ++ [d]))
    (he : ∀ d, Blk X scope fun Y => ∀ b x s b2, PE Y elt (tE W F (bd (wipeG Γ (own.map (·.2))) x) (C b (s2 b x s b2) ++ [d]) (T2 b x s b2) (fun b3 => some (some (y b x s b2 b3), s3 b x s b2 b3)) (fun b3 => Ee (y b x s b2 b3)) fun b3 => C b (s3 b x s b2 b3) ++ [d]))
    (hsw : swapsWith (.ListComp elt [⟨tg, iter, ifs, 0⟩] scope pos) (some (.Name yv py)) spos.line X.env = pure true) (hy : X.N[i]? = some yv := by rfl) (hyl : X.env.scope.names.lookup yv = some .local := by rfl) (hcm : X.calm = true := by rfl) (hs : ∀ x, foldedSetIterable iter X.env x = pure x := by intro _; rfl) :
    PS X (.Assign [.Name yv py] (.ListComp elt [⟨tg, iter, ifs, 0⟩] scope pos) spos) (tAsg (tO W F Γ Δ T k (fun b => oL Ee (out b)) fun b => C b.1 b.2.2) (gName i)) :=
  (ps_setLc hcm nd hy hyl hsw hi ok hg (tt := lcT W F Γ own bd C f c s2 T2) (fun s H Cc cl fp => ⟨fun pins s' σ H Q I ⟨d, b, x, s'', h⟩ => (hc d s _ Cc cl fp b x s'').run pins s' σ H Q I h⟩) (te := lcE W F Γ own bd C s2 T2 Ee y s3) (fun s H Cc cl fp => ⟨fun pins s' σ H Q I ⟨d, b, x, s'', b2, h⟩ => (he d s _ Cc cl fp b x s'' b2).run pins s' σ H Q I h⟩) hs).wk fun D σ H h => lc_imp hrun hout ht h0 σ H _ h
end
theorem o_drop {β ρ : Type} {e : Expr} {T : Option γ} {k : β → Option γ} {D : β → Od} {Δ' : β → Δs} (h : PE X e (tO W F Γ Δ T (fun b : β × ρ => k b.1) (fun b => D b.1) fun b => Δ' b.1)) : PE X e (tO W F Γ Δ T k D Δ') :=
  h.wk fun σ H Q ⟨ok, g, e, q⟩ => ⟨ok, g, e, fun b v H' kb f ok' => q b.1 v H' kb f ok'⟩
theorem x_lc {elt tg iter : Expr} {ifs : List Expr} {scope : Scope} {own : List (Str × Nat)} {pos : Pos} {g : TG} {α β β2 β3 δ S : Type} {T : Option γ} {k : β × (List δ × S) → Option γ} {Ex : α → Pd} {Ee : δ → Pd} {bd : Gm → α → Gm} {xs : β → List α} {Δ1 : β → Δs} {C : β → S → Δs} {s0 : β → S} {f : β → α → S → Option (Option δ × S)}
    {c : β → α → S → β2 → Bool} {s2 : β → α → S → β2 → S} {T2 : β → α → S → β2 → Option (Option δ × S)} {y : β → α → S → β2 → β3 → δ} {s3 : β → α → S → β2 → β3 → S} (nd : X.N.Nodup)
    (hi : PI X tg iter (tI W F Γ Δ T (fun b => (compM (xs b) (s0 b) (f b)).bind fun r => k (b, r)) Ex xs Δ1)) (ok : BlkOk X.N X.env.scope scope own) (hg : Blk X scope fun Y => PG Y tg g) (ht : TgtW g Ex bd (own.map (·.2))) (h0 : ∀ b, Δ1 b = C b (s0 b))
    (hc : ∀ d, Blk X scope fun Y => ∀ b x s, PTs Y ifs (tTs W F (bd (wipeG Γ (own.map (·.2))) x) (C b s ++ [d]) (f b x s) (fun b2 => if c b x s b2 = true then T2 b x s b2 else some (none, s2 b x s b2)) (c b x s) fun b2 => C b (s2 b x s b2) ++ [d]))
    (he : ∀ d, Blk X scope fun Y => ∀ b x s b2, PE Y elt (tE W F (bd (wipeG Γ (own.map (·.2))) x) (C b (s2 b x s b2) ++ [d]) (T2 b x s b2) (fun b3 => some (some (y b x s b2 b3), s3 b x s b2 b3)) (fun b3 => Ee (y b x s b2 b3)) fun b3 => C b (s3 b x s b2 b3) ++ [d]))
    (hcm : X.calm = true := by rfl) (hs : ∀ x, foldedSetIterable iter X.env x = pure x := by intro _; rfl) :
    PE X (.ListComp elt [⟨tg, iter, ifs, 0⟩] scope pos) (tO W F Γ Δ T k (fun b => oL Ee b.2.1) fun b => C b.1 b.2.2) :=
  x_lc0 (out := fun b => b.2.1) nd hi (fun _ _ h => bind_some h) (fun _ _ _ => rfl) ok hg ht h0 hc he hcm hs
theorem a_lc {elt tg iter : Expr} {ifs : List Expr} {scope : Scope} {own : List (Str × Nat)} {pos py spos : Pos} {i : Nat} {yv : Str} {g : TG} {α β β2 β3 δ S : Type} {T : Option γ} {k : β × (List δ × S) → Option γ} {Ex : α → Pd} {Ee : δ → Pd} {bd : Gm → α → Gm} {xs : β → List α} {Δ1 : β → Δs} {C : β → S → Δs} {s0 : β → S} {f : β → α → S → Option (Option δ × S)}
    {c : β → α → S → β2 → Bool} {s2 : β → α → S → β2 → S} {T2 : β → α → S → β2 → Option (Option δ × S)} {y : β → α → S → β2 → β3 → δ} {s3 : β → α → S → β2 → β3 → S} (nd : X.N.Nodup)
    (hi : PI X tg iter (tI W F Γ Δ T (fun b => (compM (xs b) (s0 b) (f b)).bind fun r => k (b, r)) Ex xs Δ1)) (ok : BlkOk X.N X.env.scope scope own) (hg : Blk X scope fun Y => PG Y tg g) (ht : TgtW g Ex bd (own.map (·.2))) (h0 : ∀ b, Δ1 b = C b (s0 b))
    (hc : ∀ d, Blk X scope fun Y => ∀ b x s, PTs Y ifs (tTs W F (bd (wipeG Γ (own.map (·.2))) x) (C b s ++ [d]) (f b x s) (fun b2 => if c b x s b2 = true then T2 b x s b2 else some (none, s2 b x s b2)) (c b x s) fun b2 => C b (s2 b x s b2) ++ [d]))
    (he : ∀ d, Blk X scope fun Y => ∀ b x s b2, PE Y elt (tE W F (bd (wipeG Γ (own.map (·.2))) x) (C b (s2 b x s b2) ++ [d]) (T2 b x s b2) (fun b3 => some (some (y b x s b2 b3), s3 b x s b2 b3)) (fun b3 => Ee (y b x s b2 b3)) fun b3 => C b (s3 b x s b2 b3) ++ [d]))
    (hsw : swapsWith (.ListComp elt [⟨tg, iter, ifs, 0⟩] scope pos) (some (.Name yv py)) spos.line X.env = pure true) (hy : X.N[i]? = some yv := by rfl) (hyl : X.env.scope.names.lookup yv = some .local := by rfl) (hcm : X.calm = true := by rfl) (hs : ∀ x, foldedSetIterable iter X.env x = pure x := by intro _; rfl) :
    PS X (.Assign [.Name yv py] (.ListComp elt [⟨tg, iter, ifs, 0⟩] scope pos) spos) (tAsg (tO W F Γ Δ T k (fun b => oL Ee b.2.1) fun b => C b.1 b.2.2) (gName i)) :=
  a_lc0 (out := fun b => b.2.1) nd hi (fun _ _ h => bind_some h) (fun _ _ _ => rfl) ok hg ht h0 hc he hsw hy hyl hcm hs
theorem compM_tot {α δ : Type} {c : α → Bool} {y : α → δ} : ∀ xs : List α, compM xs () (fun x _ => if c x = true then some (some (y x), ()) else some (none, ())) = some ((xs.filter c).map y, ())
  | [] => rfl
  | x :: xs => by
    show ((if c x = true then _ else _ : Option (Option δ × Unit)).bind _) = _
    cases h : c x with
    | true =>
      rw [if_pos rfl]
      show ((compM xs () _).bind _) = _
      rw [compM_tot xs, List.filter_cons_of_pos h]
      rfl
    | false =>
      rw [if_neg Bool.false_ne_true]
      show ((compM xs () _).bind _) = _
      rw [compM_tot xs, List.filter_cons_of_neg (by rw [h]; exact Bool.false_ne_true)]
      rfl
theorem x_lcT {elt tg iter : Expr} {ifs : List Expr} {scope : Scope} {own : List (Str × Nat)} {pos : Pos} {g : TG} {α β δ : Type} {T : Option γ} {k : β → Option γ} {Ex : α → Pd} {Ee : δ → Pd} {bd : Gm → α → Gm} {xs : β → List α} {Δ1 : β → Δs}
    {c : β → α → Bool} {y : β → α → δ} (nd : X.N.Nodup) (hi : PI X tg iter (tI W F Γ Δ T k Ex xs Δ1)) (ok : BlkOk X.N X.env.scope scope own) (hg : Blk X scope fun Y => PG Y tg g) (ht : TgtW g Ex bd (own.map (·.2)))
    (hc : ∀ d, Blk X scope fun Y => ∀ b x, ∀ (γ : Type) (T' : Option γ), PTs Y ifs (tTs W F (bd (wipeG Γ (own.map (·.2))) x) (Δ1 b ++ [d]) T' (fun _ : Unit => T') (fun _ => c b x) fun _ => Δ1 b ++ [d]))
    (he : ∀ d, Blk X scope fun Y => ∀ b x, ∀ (γ : Type) (T' : Option γ), PE Y elt (tE W F (bd (wipeG Γ (own.map (·.2))) x) (Δ1 b ++ [d]) T' (fun _ : Unit => T') (fun _ => Ee (y b x)) fun _ => Δ1 b ++ [d]))
    (hcm : X.calm = true := by rfl) (hs : ∀ x, foldedSetIterable iter X.env x = pure x := by intro _; rfl) :
    PE X (.ListComp elt [⟨tg, iter, ifs, 0⟩] scope pos) (tO W F Γ Δ T k (fun b => oL Ee (((xs b).filter (c b)).map (y b))) Δ1) :=
  o_drop (ρ := List δ × Unit) (x_lc0 (S := Unit) (β2 := Unit) (β3 := Unit) (k := fun b => k b.1) (out := fun b => ((xs b.1).filter (c b.1)).map (y b.1)) (C := fun b _ => Δ1 b) (s0 := fun _ => ()) (c := fun b x _ _ => c b x) (s2 := fun _ _ _ _ => ()) (s3 := fun _ _ _ _ _ => ()) (y := fun b x _ _ _ => y b x)
    (T2 := fun b x _ _ => some (some (y b x), ())) (f := fun b x _ => if c b x = true then some (some (y b x), ()) else some (none, ())) nd hi (fun b g h => ⟨_, compM_tot _, h⟩) (fun b r h => by rw [compM_tot] at h; cases h; rfl) ok hg ht (fun _ => rfl) (fun d s H C cl fp b x _ => hc d s H C cl fp b x _ _) (fun d s H C cl fp b x _ _ => he d s H C cl fp b x _ _) hcm hs)
theorem s_drop {β ρ : Type} {st : Stmt} {i : Nat} {T : Option γ} {k : β → Option γ} {D : β → Od} {Δ' : β → Δs} (h : PS X st (tAsg (tO W F Γ Δ T (fun b : β × ρ => k b.1) (fun b => D b.1) fun b => Δ' b.1) (gName i))) : PS X st (tAsg (tO W F Γ Δ T k D Δ') (gName i)) :=
  h.wk fun D σ H ⟨ok, g, e, q⟩ => ⟨ok, g, e, fun b v H' kb f ok' => q b.1 v H' kb f ok'⟩
theorem a_lcT {elt tg iter : Expr} {ifs : List Expr} {scope : Scope} {own : List (Str × Nat)} {pos py spos : Pos} {i : Nat} {yv : Str} {g : TG} {α β δ : Type} {T : Option γ} {k : β → Option γ} {Ex : α → Pd} {Ee : δ → Pd} {bd : Gm → α → Gm} {xs : β → List α} {Δ1 : β → Δs}
    {c : β → α → Bool} {y : β → α → δ} (nd : X.N.Nodup) (hi : PI X tg iter (tI W F Γ Δ T k Ex xs Δ1)) (ok : BlkOk X.N X.env.scope scope own) (hg : Blk X scope fun Y => PG Y tg g) (ht : TgtW g Ex bd (own.map (·.2)))
    (hc : ∀ d, Blk X scope fun Y => ∀ b x, ∀ (γ : Type) (T' : Option γ), PTs Y ifs (tTs W F (bd (wipeG Γ (own.map (·.2))) x) (Δ1 b ++ [d]) T' (fun _ : Unit => T') (fun _ => c b x) fun _ => Δ1 b ++ [d]))
    (he : ∀ d, Blk X scope fun Y => ∀ b x, ∀ (γ : Type) (T' : Option γ), PE Y elt (tE W F (bd (wipeG Γ (own.map (·.2))) x) (Δ1 b ++ [d]) T' (fun _ : Unit => T') (fun _ => Ee (y b x)) fun _ => Δ1 b ++ [d]))
    (hsw : swapsWith (.ListComp elt [⟨tg, iter, ifs, 0⟩] scope pos) (some (.Name yv py)) spos.line X.env = pure true) (hy : X.N[i]? = some yv := by rfl) (hyl : X.env.scope.names.lookup yv = some .local := by rfl) (hcm : X.calm = true := by rfl) (hs : ∀ x, foldedSetIterable iter X.env x = pure x := by intro _; rfl) :
    PS X (.Assign [.Name yv py] (.ListComp elt [⟨tg, iter, ifs, 0⟩] scope pos) spos) (tAsg (tO W F Γ Δ T k (fun b => oL Ee (((xs b).filter (c b)).map (y b))) Δ1) (gName i)) :=
  s_drop (ρ := List δ × Unit) (a_lc0 (S := Unit) (β2 := Unit) (β3 := Unit) (k := fun b => k b.1) (out := fun b => ((xs b.1).filter (c b.1)).map (y b.1)) (C := fun b _ => Δ1 b) (s0 := fun _ => ()) (c := fun b x _ _ => c b x) (s2 := fun _ _ _ _ => ()) (s3 := fun _ _ _ _ _ => ()) (y := fun b x _ _ _ => y b x)
    (T2 := fun b x _ _ => some (some (y b x), ())) (f := fun b x _ => if c b x = true then some (some (y b x), ()) else some (none, ())) nd hi (fun b g h => ⟨_, compM_tot _, h⟩) (fun b r h => by rw [compM_tot] at h; cases h; rfl) ok hg ht (fun _ => rfl) (fun d s H C cl fp b x _ => hc d s H C cl fp b x _ _) (fun d s H C cl fp b x _ _ => he d s H C cl fp b x _ _) hsw hy hyl hcm hs)
theorem pts_T {Y : Cx} {Γ : Gm} {Δ : Δs} {T : Option γ} : PTs Y [] (tTs W F Γ Δ T (fun _ : Unit => T) (fun _ => true) fun _ => Δ) := ⟨fun pins s σ H Q I ⟨ok, g, e, q⟩ => pts_nil.run pins s σ H Q I (q () H e (St.refl H) ok)⟩
end
end L3
end
section
set_option maxHeartbeats 4000000
namespace L3
open PySem PySem.Spec PyProof.Rows L2
section
variable {X : Cx} {W : Bool} {F : Fm} {Γ : Gm} {Δ : Δs} {γ : Type}
structure Flat {α : Type} [DecidableEq α] (E : α → Pd) where
  mp : α → V
  eq : ∀ {x H v}, (E x).pr H v → v = mp x
  rel : ∀ {x H}, (E x).pr H (mp x)
  fl : ∀ x, flatV (mp x) = true
  one : ∀ x y, eqV (mp x) (mp y) = decide (x = y)
def flInt : Flat pInt := ⟨V.int, fun h => h, rfl, fun _ => rfl, fun x y => by show (x == y) = _; by_cases h : x = y <;> simp [h]⟩
def flStr : Flat pStr := ⟨V.str, fun h => h, rfl, fun _ => rfl, fun x y => by show (x == y) = _; by_cases h : x = y <;> simp [h]⟩
theorem flat_vals {α : Type} {E : α → Pd} [DecidableEq α] (fl : Flat E) {H : Hp} : ∀ {xs : List α} {vs : List V}, Paired (fun x u => (E x).pr H u) xs vs → vs = xs.map fl.mp
  | _, _, .nil => rfl
  | _, _, .cons r t => by rw [List.map_cons, ← flat_vals fl t, fl.eq r]
theorem flat_in {α : Type} {E : α → Pd} [DecidableEq α] (fl : Flat E) (i : α) : ∀ xs : List α, inV (fl.mp i) (xs.map fl.mp) = decide (i ∈ xs)
  | [] => by simp [inV]
  | x :: xs => by
    have ih := flat_in fl i xs
    unfold inV at ih ⊢
    rw [List.map_cons, List.any_cons, ih, fl.one]
    by_cases h : x = i
    · simp [h]
    · have h2 : ¬ i = x := fun z => h z.symm
      simp [h, h2]
theorem flat_all {α : Type} {E : α → Pd} [DecidableEq α] (fl : Flat E) : ∀ xs : List α, (xs.map fl.mp).all flatV = true
  | [] => rfl
  | x :: xs => by rw [List.map_cons, List.all_cons, fl.fl, flat_all fl xs]; rfl
section
variable {a b : Expr} {pos : Pos} {β1 β2 α : Type} [DecidableEq α] {T : Option γ} {k1 : β1 → Option γ} {k : β1 × β2 → Option γ} {Δ1 : β1 → Δs} {Δ2 : β1 → β2 → Δs} {Ee : α → Pd} {i : β1 → α} {E2 : β1 → β2 → Pd} {xs : β1 → β2 → List α}
theorem v_inL (fl : Flat Ee) {neg : Bool} (rd : ∀ b1 b2, RdL (Δ2 b1 b2) (E2 b1 b2) Ee (xs b1 b2)) : ∀ b1 b2 σ v w H Q, Ok F Γ (Δ2 b1 b2) σ H → (Ee (i b1)).pr H v → (E2 b1 b2).pr H w → (∀ u, (pBl (if neg then !decide (i b1 ∈ xs b1 b2) else decide (i b1 ∈ xs b1 b2))).pr H u → Q u H) → rIn X.K neg v w H Q :=
  fun b1 b2 σ v w H Q ok hv hw q => by
    obtain ⟨p, vs, ev, sq, _, pr⟩ := (rd b1 b2 F H w ok.hk hw).sq (K := X.K)
    have e1 := flat_vals fl pr
    subst e1
    have e2 := fl.eq hv
    subst e2
    refine ⟨p, _, ev, .inl sq, fl.fl _, flat_all fl _, ?_⟩
    rw [flat_in fl]
    exact q _ rfl
theorem t_inL (fl : Flat Ee) (ha : PE X a (tE W F Γ Δ T k1 (fun b => Ee (i b)) Δ1)) (hb : ∀ b1, PE X b (tE W F Γ (Δ1 b1) (k1 b1) (fun b2 => k (b1, b2)) (E2 b1) (Δ2 b1))) (rd : ∀ b1 b2, RdL (Δ2 b1 b2) (E2 b1 b2) Ee (xs b1 b2)) (hm : behindInMarks .In b = false := by rfl) :
    PT X (.Compare a [.In] [b] pos) (tTs W F Γ Δ T k (fun b => decide (i b.1 ∈ xs b.1 b.2)) fun b => Δ2 b.1 b.2) := t2t (bt_cmp op_in_seq hm) ha hb (v_inL (neg := false) fl rd)
theorem v_neF (fl : Flat Ee) (sc : ∀ x y, scal (fl.mp x) (fl.mp y) = true) (inj : ∀ x y, fl.mp x = fl.mp y → x = y) {j : β1 → β2 → α} : ∀ b1 b2 σ v w H Q, Ok F Γ (Δ2 b1 b2) σ H → (Ee (i b1)).pr H v → (Ee (j b1 b2)).pr H w → (∀ u, (pBl (!decide (i b1 = j b1 b2))).pr H u → Q u H) → rNe v w H Q :=
  fun b1 b2 σ v w H Q ok hv hw q => by
    rw [fl.eq hv, fl.eq hw]
    refine ⟨sc _ _, q _ ?_⟩
    show V.bl _ = V.bl _
    congr 1
    by_cases z : i b1 = j b1 b2
    · rw [z]; simp
    · rw [decide_eq_false z, decide_eq_false fun y => z (inj _ _ y)]
end
section
variable {a b : Expr} {pos : Pos} {β1 β2 : Type} {T : Option γ} {k1 : β1 → Option γ} {k : β1 × β2 → Option γ} {Δ1 : β1 → Δs} {Δ2 : β1 → β2 → Δs} {i : β1 → Str} {j : β1 → β2 → Str} {c : β1 → Bool} {d : β1 → β2 → Bool}
end
def dtInt : Dt pInt := ⟨.int, fun h => by rw [h]; exact .int _, 0, fun _ => rfl, fun _ => Nat.le_refl 0, fun x y => by show (x == y) = _; by_cases h : x = y <;> simp [h]⟩
theorem can_all {α : Type} {E : α → Pd} [DecidableEq α] (d : Dt E) : ∀ xs : List α, PyData.canLayAll0 (xs.map d.toD) = true
  | [] => rfl
  | x :: xs => by
    show (PyData.canLay0 (d.toD x) && PyData.canLayAll0 (xs.map d.toD)) = true
    rw [d.can, can_all d xs]; rfl
theorem deep_all {α : Type} {E : α → Pd} [DecidableEq α] (d : Dt E) : ∀ xs : List α, PyData.depthAll (xs.map d.toD) ≤ d.dep
  | [] => Nat.zero_le _
  | x :: xs => Nat.max_le.mpr ⟨d.deep x, deep_all d xs⟩
theorem eqv_all {α : Type} {E : α → Pd} [DecidableEq α] (d : Dt E) : ∀ xs ys : List α, PyData.eqvAll (xs.map d.toD) (ys.map d.toD) = decide (xs = ys)
  | [], [] => rfl
  | [], _ :: _ => rfl
  | _ :: _, [] => rfl
  | x :: xs, y :: ys => by
    show (PyData.eqv (d.toD x) (d.toD y) && PyData.eqvAll (xs.map d.toD) (ys.map d.toD)) = _
    rw [d.eq, eqv_all d xs ys]
    by_cases h : x = y <;> by_cases h2 : xs = ys <;> simp [h, h2]
def dtL {α : Type} {E : α → Pd} [DecidableEq α] (d : Dt E) : Dt (pL E) := ⟨fun xs => .list (xs.map d.toD), fun ⟨a, o, vs, e, h, z, p⟩ => by rw [e]; exact .lst (.inl (.inr ⟨o, h⟩)) (dp_all d p), d.dep + 1, fun xs => can_all d xs, fun xs => Nat.succ_le_succ (deep_all d xs), fun xs ys => eqv_all d xs ys⟩
section
variable {a b : Expr} {pos : Pos} {β1 β2 α : Type} [DecidableEq α] {T : Option γ} {k1 : β1 → Option γ} {k : β1 × β2 → Option γ} {Δ1 : β1 → Δs} {Δ2 : β1 → β2 → Δs} {Ee : α → Pd} {E1 : β1 → Pd} {E2 : β1 → β2 → Pd} {xs ys : β1 → β2 → List α}
theorem shaped_l {α : Type} {E : α → Pd} [DecidableEq α] (d : Dt E) (hd : d.dep < 60) (xs : List α) : SeqAt.shaped (.list (xs.map d.toD)) = true := by
  show (PyData.canLayAll0 (xs.map d.toD) && decide (PyData.depthAll (xs.map d.toD) + 1 ≤ 64)) = true
  rw [can_all d xs, decide_eq_true (by have := deep_all d xs; omega)]; rfl
theorem v_eqL (d : Dt Ee) (hd : d.dep < 60) (r1 : ∀ b1 b2, RdL (Δ2 b1 b2) (E1 b1) Ee (xs b1 b2)) (r2 : ∀ b1 b2, RdL (Δ2 b1 b2) (E2 b1 b2) Ee (ys b1 b2)) : ∀ b1 b2 σ v w H Q, Ok F Γ (Δ2 b1 b2) σ H → (E1 b1).pr H v → (E2 b1 b2).pr H w → (∀ u, (pBl (decide (xs b1 b2 = ys b1 b2))).pr H u → Q u H) → rEqD X.K v w H Q :=
  fun b1 b2 σ v w H Q ok hv hw q => ⟨_, _, (r1 b1 b2 F H v ok.hk hv).dp d, (r2 b1 b2 F H w ok.hk hw).dp d, shaped_l d hd _, shaped_l d hd _, by
    show Q (.bl (PyData.eqvAll _ _)) H
    rw [eqv_all d]
    exact q _ rfl⟩
theorem v_neL (d : Dt Ee) (hd : d.dep < 60) (r1 : ∀ b1 b2, RdL (Δ2 b1 b2) (E1 b1) Ee (xs b1 b2)) (r2 : ∀ b1 b2, RdL (Δ2 b1 b2) (E2 b1 b2) Ee (ys b1 b2)) : ∀ b1 b2 σ v w H Q, Ok F Γ (Δ2 b1 b2) σ H → (E1 b1).pr H v → (E2 b1 b2).pr H w → (∀ u, (pBl (!decide (xs b1 b2 = ys b1 b2))).pr H u → Q u H) → rNeD X.K v w H Q :=
  fun b1 b2 σ v w H Q ok hv hw q => ⟨_, _, (r1 b1 b2 F H v ok.hk hv).dp d, (r2 b1 b2 F H w ok.hk hw).dp d, shaped_l d hd _, shaped_l d hd _, by
    show Q (.bl (!PyData.eqvAll _ _)) H
    rw [eqv_all d]
    exact q _ rfl⟩
theorem x_eqL (hu : X.A.units + 64 < cLine) (d : Dt Ee) (ha : PE X a (tE W F Γ Δ T k1 E1 Δ1)) (hb : ∀ b1, PE X b (tE W F Γ (Δ1 b1) (k1 b1) (fun b2 => k (b1, b2)) (E2 b1) (Δ2 b1))) (r1 : ∀ b1 b2, RdL (Δ2 b1 b2) (E1 b1) Ee (xs b1 b2)) (r2 : ∀ b1 b2, RdL (Δ2 b1 b2) (E2 b1 b2) Ee (ys b1 b2)) (hd : d.dep < 60 := by decide) :
    PE X (.Compare a [.Eq] [b] pos) (tE W F Γ Δ T k (fun b => pBl (decide (xs b.1 b.2 = ys b.1 b.2))) fun b => Δ2 b.1 b.2) := x2t (b_cmp (op_eqD hu) (nomark _)) ha hb (v_eqL d hd r1 r2)
theorem t_neL (hu : X.A.units + 64 < cLine) (d : Dt Ee) (ha : PE X a (tE W F Γ Δ T k1 E1 Δ1)) (hb : ∀ b1, PE X b (tE W F Γ (Δ1 b1) (k1 b1) (fun b2 => k (b1, b2)) (E2 b1) (Δ2 b1))) (r1 : ∀ b1 b2, RdL (Δ2 b1 b2) (E1 b1) Ee (xs b1 b2)) (r2 : ∀ b1 b2, RdL (Δ2 b1 b2) (E2 b1 b2) Ee (ys b1 b2)) (hd : d.dep < 60 := by decide) :
    PT X (.Compare a [.NotEq] [b] pos) (tTs W F Γ Δ T k (fun b => !decide (xs b.1 b.2 = ys b.1 b.2)) fun b => Δ2 b.1 b.2) := t2t (bt_cmp (op_neD hu) (nomark _)) ha hb (v_neL d hd r1 r2)
end
end
end L3
end
section
set_option maxHeartbeats 4000000
namespace L3
open PySem PySem.Spec PyProof.Rows L2
def cutL {α : Type} (xs : List α) (lo hi : Option Int) : List α := (xs.drop (HT.sIx xs.length 0 lo)).take (HT.sIx xs.length xs.length hi - HT.sIx xs.length 0 lo)
theorem cutL_len {α : Type} (xs : List α) (lo hi : Option Int) : (cutL xs lo hi).length ≤ xs.length := by
  unfold cutL
  rw [List.length_take, List.length_drop]
  omega
theorem paired_cut {α : Type} {P : α → V → Prop} {xs : List α} {vs : List V} (h : Paired P xs vs) (lo hi : Option Int) : Paired P (cutL xs lo hi) (cutV vs lo hi) := by
  unfold cutL cutV
  rw [← paired_len h]
  exact paired_take _ (paired_drop _ h)
theorem sorted_eq : ∀ {xs ys : List Int}, xs.Perm ys → xs.Pairwise (· ≤ ·) → ys.Pairwise (· ≤ ·) → xs = ys
  | [], ys, p, _, _ => (List.nil_perm.mp p).symm ▸ rfl
  | x :: xs, [], p, _, _ => (List.perm_nil.mp p)
  | x :: xs, y :: ys, p, hx, hy => by
    have e : x = y := by
      have m1 : x ∈ y :: ys := p.mem_iff.mp List.mem_cons_self
      have m2 : y ∈ x :: xs := p.mem_iff.mpr List.mem_cons_self
      have l1 : y ≤ x := by
        rcases List.mem_cons.mp m1 with h | h
        · omega
        · exact (List.pairwise_cons.mp hy).1 x h
      have l2 : x ≤ y := by
        rcases List.mem_cons.mp m2 with h | h
        · omega
        · exact (List.pairwise_cons.mp hx).1 y h
      omega
    subst e
    rw [sorted_eq (List.Perm.cons_inv p) (List.pairwise_cons.mp hx).2 (List.pairwise_cons.mp hy).2]
section
variable {X : Cx} {W : Bool} {F : Fm} {Γ : Gm} {Δ : Δs} {γ : Type}
def tPo {β γ : Type} (W : Bool) (F : Fm) (Γ : Gm) (Δ : Δs) (T : Option γ) (k : β → Option γ) (o : β → Option Int) (Δ' : β → Δs) : TO := fun σ H Q =>
  Ok F Γ Δ σ H ∧ ∃ g, T = some g ∧ ∀ b H', k b = some g → St W H H' → Ok F Γ (Δ' b) σ H' → Q (o b) H'
theorem _root_.L2.PO.wk {e : Option Expr} {t t' : TO} (h : PO X e t) (w : ∀ σ H Q, t' σ H Q → t σ H Q) : PO X e t' := ⟨fun pins s σ H Q I q => h.run pins s σ H Q I (w σ H Q q)⟩
theorem po_ex {β : Type} {e : Option Expr} {t : β → TO} (h : ∀ b, PO X e (t b)) : PO X e (fun σ H Q => ∃ b, t b σ H Q) := ⟨fun pins s σ H Q I ⟨b, q⟩ => (h b).run pins s σ H Q I q⟩
theorem p_none {k : Unit → Option γ} : PO X none (tPo W F Γ Δ (k ()) k (fun _ => none) fun _ => Δ) := po_none.wk fun σ H Q ⟨ok, g, e, q⟩ => q () H e (St.refl H) ok
theorem p_some {e : Expr} {β : Type} {T : Option γ} {k : β → Option γ} {i : β → Int} {Δ' : β → Δs} (he : PE X e (tE W F Γ Δ T k (fun b => pInt (i b)) Δ')) : PO X (some e) (tPo W F Γ Δ T k (fun b => some (i b)) Δ') :=
  (po_some he).wk fun σ H Q ⟨ok, g, e, q⟩ => ⟨ok, g, e, fun b v H' kb f ok' hv => ⟨i b, hv, q b H' kb f ok'⟩⟩
section
variable {a : Expr} {lo hi : Option Expr} {p2 pos : Pos} {β1 β2 β3 α : Type} {T : Option γ} {k1 : β1 → Option γ} {k2 : β1 → β2 → Option γ} {k : β1 × β2 × β3 → Option γ} {E1 : β1 → Pd} {Ee : α → Pd} {xs : β1 → β2 → β3 → List α} {o1 : β1 → β2 → Option Int} {o2 : β1 → β2 → β3 → Option Int} {Δ1 : β1 → Δs} {Δ2 : β1 → β2 → Δs} {Δ3 : β1 → β2 → β3 → Δs}
theorem x_slL (ha : PE X a (tE W F Γ Δ T k1 E1 Δ1)) (hl : ∀ b1, PO X lo (tPo W F Γ (Δ1 b1) (k1 b1) (k2 b1) (o1 b1) (Δ2 b1))) (hh : ∀ b1 b2, PO X hi (tPo W F Γ (Δ2 b1 b2) (k2 b1 b2) (fun b3 => k (b1, b2, b3)) (o2 b1 b2) (Δ3 b1 b2))) (rd : ∀ b1 b2 b3, RdL (Δ3 b1 b2 b3) (E1 b1) Ee (xs b1 b2 b3)) :
    PE X (.Subscript a (.Slice lo hi none p2) pos) (tO W F Γ Δ T k (fun b => oL Ee (cutL (xs b.1 b.2.1 b.2.2) (o1 b.1 b.2.1) (o2 b.1 b.2.1 b.2.2))) fun b => Δ3 b.1 b.2.1 b.2.2) :=
  (pe_slice sl_list ha (po_ex hl) (po_ex fun b1 => po_ex fun b2 => hh b1 b2)).wk fun σ H Q ⟨ok, g, e, q⟩ => ⟨ok, g, e, fun b1 v H1 kb1 f1 ok1 hv => ⟨b1, ok1, g, kb1, fun b2 H2 kb2 f2 ok2 => ⟨b1, b2, ok2, g, kb2, fun b3 H3 kb3 f3 ok3 => by
    obtain ⟨p, vs, ev, sq, z, pr⟩ := (rd b1 b2 b3 F H3 v ok3.hk ((E1 b1).mono (f2.fz.trans f3.fz) hv)).sq (K := X.K)
    refine ⟨p, vs, ev, sq, fun n nn => ?_⟩
    have st := (f1.trans f2).trans f3
    obtain ⟨o, g'⟩ := ok3.newL nn (Nat.le_trans (cutL_len _ _ _) z) (paired_cut pr (o1 b1 b2) (o2 b1 b2 b3))
    exact q (b1, b2, b3) _ _ kb3 (st.trans g'.st) (o.since st)⟩⟩⟩
theorem x_slS {z : β1 → Str} (ha : PE X a (tE W F Γ Δ T k1 (fun b => pStr (z b)) Δ1)) (hl : ∀ b1, PO X lo (tPo W F Γ (Δ1 b1) (k1 b1) (k2 b1) (o1 b1) (Δ2 b1))) (hh : ∀ b1 b2, PO X hi (tPo W F Γ (Δ2 b1 b2) (k2 b1 b2) (fun b3 => grd ((z b1).length ≤ sizeLine) (k (b1, b2, b3))) (o2 b1 b2) (Δ3 b1 b2))) :
    PE X (.Subscript a (.Slice lo hi none p2) pos) (tE W F Γ Δ T k (fun b => pStr (cutS (z b.1) (o1 b.1 b.2.1) (o2 b.1 b.2.1 b.2.2))) fun b => Δ3 b.1 b.2.1 b.2.2) :=
  (pe_slice sl_str ha (po_ex hl) (po_ex fun b1 => po_ex fun b2 => hh b1 b2)).wk fun σ H Q ⟨ok, g, e, q⟩ => ⟨ok, g, e, fun b1 v H1 kb1 f1 ok1 hv => ⟨b1, ok1, g, kb1, fun b2 H2 kb2 f2 ok2 => ⟨b1, b2, ok2, g, kb2, fun b3 H3 kb3 f3 ok3 => by
    obtain ⟨c, kb⟩ := grd_some kb3
    exact ⟨z b1, hv, c, q (b1, b2, b3) _ H3 kb ((f1.trans f2).trans f3) ok3 rfl⟩⟩⟩⟩
end
section
variable {a : Expr} {β α : Type} {T : Option γ} {k : β → Option γ} {E1 : β → Pd} {Ee : α → Pd} {xs : β → List α} {Δ1 : β → Δs}
variable {p pos : Pos}
theorem x_all {xs : β → List Bool} (hm : X.mg "all" = none) (ha : PE X a (tE W F Γ Δ T k E1 Δ1)) (rd : ∀ b, RdL (Δ1 b) (E1 b) pBl (xs b)) (hg : Gl X "all" := by rfl) (hs : starEach [a] X.env = (false, eval a X.env) :: starEach [] X.env := by rfl) (hc : X.calm = true := by rfl) : PE X (.Call (.Name "all" p) [a] [] pos) (tE W F Γ Δ T k (fun b => pBl ((xs b).all id)) Δ1) :=
  x1t (u_callB (cr_all hc) hg hm (by decide +kernel) (by decide) (by decide) hs) ha fun b σ v H Q ok hv q => by
    obtain ⟨p, vs, ev, sq, z, pr⟩ := (rd b F H v ok.hk hv).sq (K := X.K)
    have e := paired_bls pr
    subst e
    rw [ev]
    exact ⟨p, xs b, rfl, sq, q _ rfl⟩
end
section
variable {a : Expr} {i : Int} {n : Nat} {p pos : Pos} {β α1 α2 α3 : Type} {T : Option γ} {k : β → Option γ} {A : α1 → Pd} {B : α2 → Pd} {C : α3 → Pd} {Δ1 : β → Δs}
theorem x_fst {x : β → α1 × α2} (ha : PE X a (tE W F Γ Δ T k (fun b => pT2 A B (x b)) Δ1)) : PE X (.Subscript a (.Constant (.int 0) n p) pos) (tE W F Γ Δ T k (fun b => A (x b).1) Δ1) :=
  (pe_ix ix_tup ha pe_int (fun _ _ => rfl)).wk fun σ H Q ⟨ok, g, e, q⟩ => ⟨ok, g, e, fun b v H1 kb f ok1 ⟨t, u, w, ev, h, p1, p2⟩ => ⟨t, [u, w], 0, u, ev, rfl, .inl (.inl h), rfl, q b u H1 kb f ok1 p1⟩⟩
theorem x_snd {x : β → α1 × α2} (ha : PE X a (tE W F Γ Δ T k (fun b => pT2 A B (x b)) Δ1)) : PE X (.Subscript a (.Constant (.int 1) n p) pos) (tE W F Γ Δ T k (fun b => B (x b).2) Δ1) :=
  (pe_ix ix_tup ha pe_int (fun _ _ => rfl)).wk fun σ H Q ⟨ok, g, e, q⟩ => ⟨ok, g, e, fun b v H1 kb f ok1 ⟨t, u, w, ev, h, p1, p2⟩ => ⟨t, [u, w], 1, w, ev, rfl, .inl (.inl h), rfl, q b w H1 kb f ok1 p2⟩⟩
end
def rCatR (K : PySem.W.Frag) : R2 := fun x y H Q => ∃ l b xs zs, x = .ref l ∧ y = .ref b ∧ Rd H l (.lst xs) ∧ Rd H b (.lst zs) ∧ xs.length + zs.length ≤ sizeLine ∧ ∀ p, H p = none → Q (.ref p) (upd H p (.lst (xs ++ zs)))
theorem op_catR : OpR X (binaryOp .Add) (rCatR X.K) := fun pins s σ H x y v u Q I rx ry ⟨l, b, xs, zs, ex, ey, hl, hb, hz, q⟩ => by
  subst ex ey
  have e1 : v = Value.ref l := rx
  have e2 : u = Value.ref b := ry
  subst e1 e2
  obtain ⟨z1, i1, n1, r1, g1⟩ := (show ObjOk X.prog X.w H s.heap l (.lst xs) from hl.ok I.hok)
  obtain ⟨z2, i2, n2, r2, g2⟩ := (show ObjOk X.prog X.w H s.heap b (.lst zs) from hb.ok I.hok)
  have l1 := r1.length
  have l2 := r2.length
  refine PySem.P.add_list g1 g2 ?_ (by simp only [List.size_toArray]; omega)
  rw [show i1.toArray ++ i2.toArray = (i1 ++ i2).toArray by simp]
  exact ⟨.ref _, _, I.lnew (t' := s.toks) (r1.append r2) (by simp only [List.length_append]; omega), rfl, q _ I.fresh⟩
section
variable {a b : Expr} {pos : Pos} {β1 β2 α : Type} {T : Option γ} {k1 : β1 → Option γ} {k : β1 × β2 → Option γ} {Δ1 : β1 → Δs} {Δ2 : β1 → β2 → Δs} {Ee : α → Pd} {E1 : β1 → Pd} {E2 : β1 → β2 → Pd} {xs ys : β1 → β2 → List α}
theorem x_cat (ha : PE X a (tE W F Γ Δ T k1 E1 Δ1)) (hb : ∀ b1, PE X b (tE W F Γ (Δ1 b1) (k1 b1) (fun b2 => grd ((xs b1 b2).length + (ys b1 b2).length ≤ sizeLine) (k (b1, b2))) (E2 b1) (Δ2 b1))) (r1 : ∀ b1 b2, RdL (Δ2 b1 b2) (E1 b1) Ee (xs b1 b2)) (r2 : ∀ b1 b2, RdL (Δ2 b1 b2) (E2 b1 b2) Ee (ys b1 b2)) :
    PE X (.BinOp a .Add b pos) (tO W F Γ Δ T k (fun b => oL Ee (xs b.1 b.2 ++ ys b.1 b.2)) fun b => Δ2 b.1 b.2) :=
  x2_core (b_op op_catR) ha hb fun σ H Q ⟨ok, g, e, q⟩ => ⟨ok, g, e, fun b1 b2 v w H2 kb f ok2 hv hw => by
    obtain ⟨c, kb⟩ := grd_some kb
    obtain ⟨l, vs, ev, rv, zv, pv⟩ := r1 b1 b2 F H2 v ok2.hk hv
    obtain ⟨m, ws, ew, rw', zw, pw⟩ := r2 b1 b2 F H2 w ok2.hk hw
    refine ⟨l, m, vs, ws, ev, ew, rv, rw', by rw [← paired_len pv, ← paired_len pw]; exact c, fun n nn => ?_⟩
    obtain ⟨o, g'⟩ := ok2.newL nn (by rw [List.length_append]; exact c) (paired_app pv pw)
    exact q (b1, b2) _ _ kb (f.trans g'.st) (o.since f)⟩
end
section
variable {o e : Expr} {apos cpos : Pos} {β1 β2 α : Type} {T : Option γ} {k1 : β1 → Option γ} {k : β1 × β2 → Option γ} {Δ1 : β1 → Δs} {Δ2 : β1 → β2 → Δs} {Ee : α → Pd} {xs : β1 → β2 → List α} {y : β1 → β2 → α} {v : V} {prm : Option Nat}
theorem x_app (j : Nat) (ho : PE X o (tE true F Γ Δ T k1 (fun _ => pV v) Δ1)) (he : ∀ b1, PE X e (tE true F Γ (Δ1 b1) (k1 b1) (fun b2 => grd ((xs b1 b2).length < sizeLine) (k (b1, b2))) (fun b2 => Ee (y b1 b2)) (Δ2 b1))) {xs0 : β1 → List α} {prm0 : Option Nat} (hj0 : ∀ b1, (Δ1 b1)[j]? = some ⟨v, oL Ee (xs0 b1), prm0⟩)
    (hj : ∀ b1 b2, (Δ2 b1 b2)[j]? = some ⟨v, oL Ee (xs b1 b2), prm⟩)
    (hbase : attributeBase o "append" X.env (eval o X.env) = eval o X.env := by rfl) (hline : (apos.endLine == cpos.line) = true := by rfl) (hs : starEach [e] X.env = (false, eval e X.env) :: starEach [] X.env := by rfl)
    (hfew : ((backTo cpos (starEach [e] X.env)).all (fun x => !x.1) && (backToKw cpos (keywordEach [] X.env)).all (fun x => x.1.isSome) && decide ([e].length + ([] : List Keyword).length + (if ([] : List Keyword).isEmpty then 0 else 1) < 30)) = true := by rfl) :
    PE X (.Call (.Attribute o "append" apos) [e] [] cpos) (tE true F Γ Δ T k (fun _ => pNon) fun b => (Δ2 b.1 b.2).set j ⟨v, oL Ee (xs b.1 b.2 ++ [y b.1 b.2]), prm⟩) :=
  (pe_bm PySem.F.plainAttrs_list PySem.F.slot_list_append PySem.F.type_list_append mt_append ho (pa_cons (pe_ex he) pa_nil hs) hbase hfew hline hs).wk fun σ H Q ⟨ok, g, e, q⟩ => ⟨ok, g, e, fun b1 u H1 kb1 f1 ok1 hu => by
    have hu : u = v := hu
    subst hu
    obtain ⟨_, p0, vs0, _, ev0, hp0, _, _⟩ := ok1.hk.at (hj0 b1)
    have ev0 : u = .ref p0 := ev0
    refine ⟨by rw [ev0]; exact .inl ⟨rfl, vs0, .inl (.inl hp0)⟩, b1, ok1, g, kb1, fun b2 w H2 kb2 f2 ok2 hw => ?_⟩
    obtain ⟨c, kb⟩ := grd_some kb2
    obtain ⟨G, ⟨p, vs, eG, ev, hp, z, pr⟩, _, turn⟩ := ok2.cell (hj b1 b2)
    have fzm : Fzs H2 (upd H2 p (.lst (vs ++ [w]))) := Fzs.mut hp fun z => z
    obtain ⟨ok3, f3⟩ := turn (upd H2 p (.lst (vs ++ [w]))) (oL Ee (xs b1 b2 ++ [y b1 b2])) (fun a o na e => by
      rw [upd_ne fun z => na (by rw [eG, z]; exact List.mem_singleton.mpr rfl)]; exact e)
      ⟨p, vs ++ [w], eG, ev, upd_same, by rw [List.length_append, List.length_singleton]; omega, paired_app (paired_mono (fun x _ => (Ee x).mono fzm) pr) (.cons ((Ee _).mono fzm hw) .nil)⟩
    exact ⟨p, vs, w, ev, rfl, hp, by rw [← paired_len pr]; exact c, q (b1, b2) .non _ kb ((f1.trans f2).trans f3) ok3 rfl⟩⟩
end
section
variable {a : Expr} {pos p : Pos} {j : Nat} {β α : Type} {T : Option γ} {k : β → Option γ} {Ee : α → Pd} {x : β → Option α} {Δ1 : β → Δs}
def TyP (Δ : Δs) (p : Pd) (t : String) : Prop := ∀ K F H v, Hk F Δ H → p.pr H v → TyX K H v (.type t)
theorem tyInt {i : Int} : TyP Δ (pInt i) "int" := fun _ _ _ _ _ h => by rw [h]; exact .base (.int _)
theorem tyStr {i : Str} : TyP Δ (pStr i) "str" := fun _ _ _ _ _ h => by rw [h]; exact .base (.str _)
theorem tyNon : TyP Δ pNon "NoneType" := fun _ _ _ _ _ h => by rw [h]; exact .base .non
theorem tyL {α : Type} {E : α → Pd} {xs : List α} : TyP Δ (pL E xs) "list" := fun _ _ _ _ _ ⟨_, _, _, e, h, _⟩ => by rw [e]; exact .base (.frz h)
theorem x_isi {E1 : β → Pd} {cls : Str} {cn : String} {p1 p2 : Pos} (t : β → String) (r : β → Bool) (hm : X.mg "isinstance" = none) (hm2 : X.mg cls = none) (ha : PE X a (tE W F Γ Δ T k E1 Δ1)) (ty : ∀ b, TyP (Δ1 b) (E1 b) (t b)) (hr : ∀ b, kitB (t b) cn = some (r b)) (hb : bootBuiltins cls = some (.type cn)) (hg : Gl X "isinstance" := by rfl) (hg2 : Gl X cls := by rfl)
    (hn : cls ≠ "__name__" := by decide) (hdb : (cls == ("__debug__" : Str)) = false := by decide) (hs : starEach [a, .Name cls p2] X.env = (false, eval a X.env) :: starEach [.Name cls p2] X.env := by rfl) (hs2 : starEach [.Name cls p2] X.env = (false, eval (.Name cls p2) X.env) :: starEach [] X.env := by rfl) (hpl : (backTo pos (starEach [.Name cls p2] X.env)).any (·.1) = false := by rfl) :
    PE X (.Call (.Name "isinstance" p1) [a, .Name cls p2] [] pos) (tE W F Γ Δ T k (fun b => pBl (r b)) Δ1) :=
  (b_callB call_isi hg hm boot_isinstance (by decide) (by decide) hs hs2 hpl _ _ ha (pe_bltn (v := .ty cn) hg2 hm2 hb rfl hn hdb)).wk fun σ H Q ⟨ok, g, e, q⟩ => ⟨ok, g, e, fun b v H1 kb f ok1 hv => ⟨v, .ty cn, .type (t b), .type cn, r b, rfl, .ty cn, ty b X.K F H1 v ok1.hk hv, kit_ty (hr b), q b _ H1 kb f ok1 rfl⟩⟩
end
end
end L3
end
section
set_option maxHeartbeats 8000000
namespace L3
open PySem PySem.Spec PyProof.Rows L2
section
variable {P : Program} {w : World} {A : Around} {E : Value → Shared → Prop} {s : Shared}
end
section
variable {X : Cx}
variable {W : Bool} {F : Fm} {Γ : Gm} {Δ : Δs} {γ : Type}
def pTrue : Pd := ⟨fun _ _ => True, fun _ h => h⟩
section
variable {a : Expr} {p pos : Pos} {β : Type} {T : Option γ} {E1 : β → Pd} {xs : β → List Int} {Δ1 : β → Δs}
end
end
theorem lt_uniq : ∀ {xs ys : List Int}, xs.Pairwise (· < ·) → ys.Pairwise (· < ·) → (∀ k, k ∈ xs ↔ k ∈ ys) → xs = ys := fun {xs ys} h1 h2 h => by
  have n1 : xs.Nodup := h1.imp fun h => by omega
  have n2 : ys.Nodup := h2.imp fun h => by omega
  exact sorted_eq ((List.perm_ext_iff_of_nodup n1 n2).mpr h) (h1.imp fun h => by omega) (h2.imp fun h => by omega)
end L3
end
section
set_option maxHeartbeats 8000000
namespace L3
open PySem PySem.Spec PyProof.Rows L2
section
variable {P : Program} {w : World} {A : Around} {E : Value → Shared → Prop} {s : Shared}
end
section
variable {X : Cx} {W : Bool} {F : Fm} {Γ : Gm} {Δ : Δs} {γ : Type}
section
variable {a : Expr} {p pos : Pos} {β : Type} {T : Option γ} {xs : β → List Int} {Δ1 : β → Δs} {k : β → Option γ}
end
end
end L3
end
section
set_option maxHeartbeats 4000000
namespace L3
open PySem PySem.Spec PyProof.Rows L2
section
variable {X : Cx} {W : Bool} {F : Fm} {Γ : Gm} {Δ : Δs} {γ : Type}
def FlatE {β : Type} (E : β → Pd) : Prop := ∀ b H H' v, (E b).pr H v → (E b).pr H' v
theorem Ok.lockC {σ : SS} {H : Hp} {i j : Nat} {c : Cell} (ok : Ok F Γ Δ σ H) (hj : Δ[j]? = some c) (hi : Γ[i]? = some (some (pV c.v))) : ∃ G, G.Nodup ∧ c.d.pr G H c.v ∧ ∀ H1, (∀ a, a ∉ G → H1 a = H a) → (∀ a ∈ G, ∀ u, H a = some u → ∃ o, H1 a = some (.frz o u)) → Ok F (Γ.set i (some c.d.pd)) (Δ.eraseIdx j) σ H1 := by
  obtain ⟨⟨Δ0, e, k⟩, n⟩ := ok
  subst e
  obtain ⟨A, x, B, e0, el, ex⟩ := map_at hj
  subst e0
  subst ex
  have k1 := k.perm mid_perm
  have hc := k1.del x List.mem_cons_self
  refine ⟨x.G, k1.ndup.1, hc, fun H1 h1 h2 => ?_⟩
  obtain ⟨r, fz, _⟩ := k1.rest (H' := H1) (fun a o na e => by rw [h1 a na]; exact e) (fun a ha => by
    obtain ⟨u, hu, _⟩ := x.d.cells hc a ha
    obtain ⟨o, ho⟩ := h2 a ha u hu
    exact ⟨_, ho⟩)
  refine ⟨⟨A ++ B, by rw [← el]; exact map_erase, r⟩, by rw [List.length_set]; exact n.len, fun m p e => ?_⟩
  by_cases h : m = i
  · subst h
    rw [List.getElem?_set_self (List.getElem?_eq_some_iff.mp hi).1] at e
    cases e
    obtain ⟨w, hs, hv⟩ := n.gam m _ hi
    have hv : w = x.v := hv
    subst hv
    exact ⟨_, hs, x.d.lockd hc h1 h2⟩
  · rw [List.getElem?_set_ne (fun z => h z.symm)] at e
    obtain ⟨w, hs, hv⟩ := n.gam m p e
    exact ⟨w, hs, p.mono fz hv⟩
def tLkE : List Addr → TE → TE
  | [], t => t
  | _ :: G, t => tLockE (tLkE G t)
theorem pe_lkE {e : Expr} {t : TE} (h : PE X e t) : ∀ G : List Addr, PE X e (tLkE G t)
  | [] => h
  | _ :: G => pe_lock (pe_lkE h G)
theorem tLkE_of {t : TE} {σ : SS} (mono : ∀ H (Q Q' : VK), (∀ v H', Q v H' → Q' v H') → t σ H Q → t σ H Q') : ∀ {G : List Addr} {H : Hp} {Q : VK}, G.Nodup → (∀ a ∈ G, ∃ u, H a = some u ∧ Mut (some u)) →
    (∀ H1, (∀ a, a ∉ G → H1 a = H a) → (∀ a ∈ G, ∀ u, H a = some u → ∃ o, H1 a = some (.frz o u)) → t σ H1 fun v H' => (∀ a ∈ G, H' a = H1 a) ∧ ∀ H2 : Hp, (∀ a, a ∉ G → H2 a = H' a) → (∀ a ∈ G, H2 a = H a) → Q v H2) → tLkE G t σ H Q
  | [], H, Q, _, _, k => mono H _ _ (fun v H' h => h.2 H' (fun _ _ => rfl) fun _ h => absurd h List.not_mem_nil) (k H (fun _ _ => rfl) fun _ h => absurd h List.not_mem_nil)
  | d :: G, H, Q, nd, hm, k => by
    obtain ⟨nd1, nd2⟩ := List.nodup_cons.mp nd
    obtain ⟨u, hu, mu⟩ := hm d List.mem_cons_self
    refine ⟨d, u, hu, mu, fun od => tLkE_of mono nd2 (fun a ha => ?_) fun H1 h1 h2 => ?_⟩
    · rw [upd_ne (fun e => nd1 (by rw [← e]; exact ha))]
      exact hm a (List.mem_cons_of_mem _ ha)
    · have k1 : ∀ a, a ∉ d :: G → H1 a = H a := fun a ha => by
        rw [h1 a (fun z => ha (List.mem_cons_of_mem _ z)), upd_ne (fun e => ha (by rw [e]; exact List.mem_cons_self))]
      have k2 : ∀ a ∈ d :: G, ∀ w, H a = some w → ∃ o, H1 a = some (.frz o w) := fun a ha w hw => by
        by_cases e : a = d
        · subst e
          rw [hu] at hw
          cases hw
          exact ⟨od, by rw [h1 a nd1, upd_same]⟩
        · rcases List.mem_cons.mp ha with z | z
          · exact absurd z e
          · exact h2 a z w (by rw [upd_ne e]; exact hw)
      refine mono _ _ _ (fun v H' q => ⟨fun a ha => q.1 a (List.mem_cons_of_mem _ ha), fun H2 r1 r2 => ⟨by rw [r1 d nd1, q.1 d List.mem_cons_self, h1 d nd1, upd_same], q.2 _ (fun a ha => ?_) (fun a ha => ?_)⟩⟩) (k H1 k1 k2)
      · rw [upd_ne (fun e => ha (by rw [e]; exact List.mem_cons_self)), r1 a fun z => ha (List.mem_cons_of_mem _ z)]
      · by_cases e : a = d
        · subst e; rw [upd_same, hu]
        · rcases List.mem_cons.mp ha with z | z
          · exact absurd z e
          · rw [upd_ne e, r2 a z, upd_ne e]
def tLockT (t : TT) : TT := fun σ H Q => ∃ d u, H d = some u ∧ Mut (some u) ∧ ∀ od, t σ (upd H d (.frz od u)) fun b H' => H' d = some (.frz od u) ∧ Q b (upd H' d u)
theorem pt_lockT {e : Expr} {t : TT} (h : PT X e t) : PT X e (tLockT t) := ⟨fun pins s σ H Q I ⟨d, u, hd, mu, hw⟩ => by
  obtain ⟨od, I1⟩ := I.lock hd mu
  exact thn (h.run pins s σ _ _ I1 (hw od)) fun b s1 ⟨H1, I2, e2, q⟩ => ⟨_, I2.unlock e2 (I.nofrz hd mu), q⟩⟩
def tLkT : List Addr → TT → TT
  | [], t => t
  | _ :: G, t => tLockT (tLkT G t)
theorem pt_lkT {e : Expr} {t : TT} (h : PT X e t) : ∀ G : List Addr, PT X e (tLkT G t)
  | [] => h
  | _ :: G => pt_lockT (pt_lkT h G)
theorem tLkT_of {t : TT} {σ : SS} (mono : ∀ H (Q Q' : Bool → Hp → Prop), (∀ v H', Q v H' → Q' v H') → t σ H Q → t σ H Q') : ∀ {G : List Addr} {H : Hp} {Q : Bool → Hp → Prop}, G.Nodup → (∀ a ∈ G, ∃ u, H a = some u ∧ Mut (some u)) →
    (∀ H1, (∀ a, a ∉ G → H1 a = H a) → (∀ a ∈ G, ∀ u, H a = some u → ∃ o, H1 a = some (.frz o u)) → t σ H1 fun v H' => (∀ a ∈ G, H' a = H1 a) ∧ ∀ H2 : Hp, (∀ a, a ∉ G → H2 a = H' a) → (∀ a ∈ G, H2 a = H a) → Q v H2) → tLkT G t σ H Q
  | [], H, Q, _, _, k => mono H _ _ (fun v H' h => h.2 H' (fun _ _ => rfl) fun _ h => absurd h List.not_mem_nil) (k H (fun _ _ => rfl) fun _ h => absurd h List.not_mem_nil)
  | d :: G, H, Q, nd, hm, k => by
    obtain ⟨nd1, nd2⟩ := List.nodup_cons.mp nd
    obtain ⟨u, hu, mu⟩ := hm d List.mem_cons_self
    refine ⟨d, u, hu, mu, fun od => tLkT_of mono nd2 (fun a ha => ?_) fun H1 h1 h2 => ?_⟩
    · rw [upd_ne (fun e => nd1 (by rw [← e]; exact ha))]
      exact hm a (List.mem_cons_of_mem _ ha)
    · have k1 : ∀ a, a ∉ d :: G → H1 a = H a := fun a ha => by
        rw [h1 a (fun z => ha (List.mem_cons_of_mem _ z)), upd_ne (fun e => ha (by rw [e]; exact List.mem_cons_self))]
      have k2 : ∀ a ∈ d :: G, ∀ w, H a = some w → ∃ o, H1 a = some (.frz o w) := fun a ha w hw => by
        by_cases e : a = d
        · subst e
          rw [hu] at hw
          cases hw
          exact ⟨od, by rw [h1 a nd1, upd_same]⟩
        · rcases List.mem_cons.mp ha with z | z
          · exact absurd z e
          · exact h2 a z w (by rw [upd_ne e]; exact hw)
      refine mono _ _ _ (fun v H' q => ⟨fun a ha => q.1 a (List.mem_cons_of_mem _ ha), fun H2 r1 r2 => ⟨by rw [r1 d nd1, q.1 d List.mem_cons_self, h1 d nd1, upd_same], q.2 _ (fun a ha => ?_) (fun a ha => ?_)⟩⟩) (k H1 k1 k2)
      · rw [upd_ne (fun e => ha (by rw [e]; exact List.mem_cons_self)), r1 a fun z => ha (List.mem_cons_of_mem _ z)]
      · by_cases e : a = d
        · subst e; rw [upd_same, hu]
        · rcases List.mem_cons.mp ha with z | z
          · exact absurd z e
          · rw [upd_ne e, r2 a z, upd_ne e]
theorem lk_back {G : List Addr} {H H1 H' H2 : Hp} (h1 : ∀ a, a ∉ G → H1 a = H a) (st : Gr H1 H') (r1 : ∀ a, a ∉ G → H2 a = H' a) (r2 : ∀ a ∈ G, H2 a = H a) : Gr H H2 := fun a o e => by
  by_cases ha : a ∈ G
  · rw [r2 a ha]; exact e
  · rw [r1 a ha]
    exact st a o (by rw [h1 a ha]; exact e)
theorem lk_kept {G : List Addr} {H H1 H' : Hp} (hm : ∀ a ∈ G, ∃ o, H a = some o ∧ Mut (some o)) (h2 : ∀ a ∈ G, ∀ u, H a = some u → ∃ o, H1 a = some (.frz o u)) (st : Gr H1 H') : ∀ a ∈ G, H' a = H1 a := fun a ha => by
  obtain ⟨u, hu, _⟩ := hm a ha
  obtain ⟨o, ho⟩ := h2 a ha u hu
  rw [ho]
  exact st a _ ho
theorem t_lockG {e : Expr} {β : Type} {T : Option γ} {k : β → Option γ} {c : β → Bool} {v : V} {d : Od} {prm : Option Nat} (j i : Nat)
    (he : PT X e (tTs false F (Γ.set i (some d.pd)) (Δ.eraseIdx j) T k c fun _ => Δ.eraseIdx j)) (hj : Δ[j]? = some ⟨v, d, prm⟩ := by rfl) (hi : Γ[i]? = some (some (pV v)) := by rfl) : PT X e (tTs W F Γ Δ T k c fun _ => Δ) :=
  (pt_ex fun G => pt_lkT he G).wk fun σ H Q ⟨ok, g, e, q⟩ => by
    obtain ⟨G, nd, hc, lk⟩ := ok.lockC hj hi
    refine ⟨G, tLkT_of (fun H Q Q' h ⟨a, g, b, c⟩ => ⟨a, g, b, fun b H' k s o => h _ H' (c b H' k s o)⟩) nd (d.cells hc) fun H1 h1 h2 => ⟨lk H1 h1 h2, g, e, fun b H' kb st ok2 => ⟨lk_kept (d.cells hc) h2 st.gr, fun H2 r1 r2 => ?_⟩⟩⟩
    have g2 := lk_back h1 st.gr r1 r2
    exact q b H2 kb g2.st (ok.gr g2)
def FlatO {β : Type} (D : β → Od) : Prop := ∀ b G H H' v, (D b).pr G H v → (∀ a ∈ G, H' a = H a) → (D b).pr G H' v
theorem foL {β α : Type} {E : α → Pd} {x : β → List α} (fe : FlatE E) : FlatO fun b => oL E (x b) := fun b G H H' v ⟨p, vs, eg, ev, h, z, q⟩ k => ⟨p, vs, eg, ev, by rw [k p (by rw [eg]; exact List.mem_singleton.mpr rfl)]; exact h, z, paired_mono (fun x u => fe x H H' u) q⟩
theorem o_lockG {e : Expr} {β : Type} {T : Option γ} {k : β → Option γ} {D : β → Od} {v : V} {d : Od} {prm : Option Nat} (j i : Nat) (fo : FlatO D)
    (he : PE X e (tO false F (Γ.set i (some d.pd)) (Δ.eraseIdx j) T k D fun _ => Δ.eraseIdx j)) (hj : Δ[j]? = some ⟨v, d, prm⟩ := by rfl) (hi : Γ[i]? = some (some (pV v)) := by rfl) : PE X e (tO W F Γ Δ T k D fun _ => Δ) :=
  (pe_ex fun G => pe_lkE he G).wk fun σ H Q ⟨ok, g, e, q⟩ => by
    obtain ⟨G, nd, hc, lk⟩ := ok.lockC hj hi
    refine ⟨G, tLkE_of (fun H Q Q' h ⟨a, g, b, c⟩ => ⟨a, g, b, fun b v H' k s o => h v H' (c b v H' k s o)⟩) nd (d.cells hc) fun H1 h1 h2 => ⟨lk H1 h1 h2, g, e, fun b w H' kb st okn => ⟨lk_kept (d.cells hc) h2 st.gr, fun H2 r1 r2 => ?_⟩⟩⟩
    have g2 := lk_back h1 st.gr r1 r2
    obtain ⟨Δ0, Gn, _, kn, nw, _⟩ := okn
    have out : ∀ a ∈ Gn, a ∉ G := fun a ha hg => by
      obtain ⟨u, hu, _⟩ := d.cells hc a hg
      obtain ⟨o, ho⟩ := h2 a hg u hu
      rw [nw rfl a ha] at ho; cases ho
    refine q b w H2 kb g2.st (ok.add g2 kn.ndup.1 (fun a ha => ?_) (fo b Gn H' H2 w (kn.del _ List.mem_cons_self) fun a ha => r1 a (out a ha)))
    rw [← h1 a (out a ha)]
    exact nw rfl a ha
end
end L3
end
section
set_option maxHeartbeats 4000000
namespace L3
open PySem PySem.Spec PyProof.Rows L2
section
variable {X : Cx} {W : Bool} {F : Fm} {Γ : Gm} {Δ : Δs} {γ : Type}
theorem Own3.frame {α : Type} {D : α → Od} {H H' : Hp} (f : Fzs H H') : ∀ {xs : List α} {vs : List V} {gs : List (List Addr)}, Own3 D H xs vs gs → (∀ a ∈ gs.flatten, ∀ o, H a = some o → H' a = some o) → Own3 D H' xs vs gs
  | _, _, _, .nil, _ => .nil
  | _, _, _, .cons r t, k => by
    rw [List.flatten_cons] at k
    exact .cons ((D _).frame r (fun a ha => k a (List.mem_append_left _ ha)) f) (Own3.frame f t fun a ha => k a (List.mem_append_right _ ha))
theorem Own3.cells {α : Type} {D : α → Od} {H : Hp} : ∀ {xs : List α} {vs : List V} {gs : List (List Addr)}, Own3 D H xs vs gs → ∀ a ∈ gs.flatten, ∃ o, H a = some o ∧ Mut (some o)
  | _, _, _, .nil, a, h => by simp at h
  | _, _, _, .cons r t, a, h => by
    rw [List.flatten_cons] at h
    rcases List.mem_append.mp h with h | h
    · exact (D _).cells r a h
    · exact t.cells a h
theorem Own3.lockd {α : Type} {D : α → Od} {H H1 : Hp} {S : List Addr} (h1 : ∀ a, a ∉ S → H1 a = H a) (h2 : ∀ a ∈ S, ∀ u, H a = some u → ∃ o, H1 a = some (.frz o u)) (hm : ∀ a ∈ S, ∃ o, H a = some o ∧ Mut (some o)) : ∀ {xs : List α} {vs : List V} {gs : List (List Addr)}, Own3 D H xs vs gs → (∀ a ∈ gs.flatten, a ∈ S) → Paired (fun x u => (D x).pd.pr H1 u) xs vs
  | _, _, _, .nil, _ => .nil
  | x :: _, v :: _, g :: gs, .cons r t, sub => by
    rw [List.flatten_cons] at sub
    refine .cons ?_ (Own3.lockd h1 h2 hm t fun a ha => sub a (List.mem_append_right _ ha))
    have m1 : ∀ a, a ∉ g → (fun a => if a ∈ g then H1 a else H a : Hp) a = H a := fun a ha => if_neg ha
    have m2 : ∀ a ∈ g, ∀ u, H a = some u → ∃ o, (fun a => if a ∈ g then H1 a else H a : Hp) a = some (.frz o u) := fun a ha u e => by
      obtain ⟨o, ho⟩ := h2 a (sub a (List.mem_append_left _ ha)) u e
      exact ⟨o, (if_pos ha).trans ho⟩
    refine (D x).pd.mono (fun a o p e => ?_) ((D x).lockd r m1 m2)
    by_cases ha : a ∈ g
    · exact (if_pos ha).symm.trans e
    · have e : H a = some o := (if_neg ha).symm.trans e
      by_cases hs : a ∈ S
      · obtain ⟨u, hu, mu⟩ := hm a hs
        rw [e] at hu
        cases hu
        exact absurd p (Mut.npst mu)
      · rw [h1 a hs]; exact e
def oLO {α : Type} (D : α → Od) (xs : List α) : Od where
  pr G H v := ∃ p vs gs, G = p :: gs.flatten ∧ v = .ref p ∧ H p = some (.lst vs) ∧ xs.length ≤ sizeLine ∧ Own3 D H xs vs gs
  pd := pL (fun x => (D x).pd) xs
  frame := fun {G H H' v} h k f => by
    obtain ⟨p, vs, gs, eg, ev, h, z, q⟩ := h
    exact ⟨p, vs, gs, eg, ev, k p (by rw [eg]; exact List.mem_cons_self) _ h, z, q.frame f fun a ha => k a (by rw [eg]; exact List.mem_cons_of_mem _ ha)⟩
  cells := fun ⟨p, vs, gs, eg, ev, h, z, q⟩ a ha => by
    rw [eg] at ha
    rcases List.mem_cons.mp ha with e | ha
    · rw [e]; exact ⟨_, h, trivial⟩
    · exact q.cells a ha
  lockd := fun {G H H1 v} ⟨p, vs, gs, eg, ev, h, z, q⟩ h1 h2 => by
    obtain ⟨o, ho⟩ := h2 p (by rw [eg]; exact List.mem_cons_self) _ h
    have hm : ∀ a ∈ G, ∃ o, H a = some o ∧ Mut (some o) := fun a ha => by
      rw [eg] at ha
      rcases List.mem_cons.mp ha with e | ha
      · rw [e]; exact ⟨_, h, trivial⟩
      · exact q.cells a ha
    exact ⟨p, o, vs, ev, ho, z, q.lockd h1 h2 hm fun a ha => by rw [eg]; exact List.mem_cons_of_mem _ ha⟩
theorem Own3.turn {α : Type} {D : α → Od} {H H' : Hp} {y : α} {v : V} {g : List Addr} (f : Fzs H H') (kp : ∀ a o, a ∉ g → H a = some o → H' a = some o) (new : (D y).pr g H' v) : ∀ {xs : List α} {vs : List V} {gs : List (List Addr)} {m : Nat}, Own3 D H xs vs gs → gs.flatten.Nodup → vs[m]? = some v → gs[m]? = some g → Own3 D H' (xs.set m y) vs gs
  | _, _, _, _, .nil, _, e, _ => by simp at e
  | _, _, _, 0, .cons r t, nd, e1, e2 => by
    simp at e1 e2
    subst e1 e2
    rw [List.flatten_cons] at nd
    exact .cons new (t.frame f fun a ha o e => kp a o (fun hg => (List.nodup_append.mp nd).2.2 a hg a ha rfl) e)
  | _, _, g0 :: gs, m + 1, .cons r t, nd, e1, e2 => by
    rw [List.flatten_cons] at nd
    have e2' : gs[m]? = some g := by simpa using e2
    refine .cons ((D _).frame r (fun a ha o e => kp a o (fun hg => ?_) e) f) (Own3.turn f kp new t (List.nodup_append.mp nd).2.1 (by simpa using e1) e2')
    exact (List.nodup_append.mp nd).2.2 a ha a (List.mem_flatten.mpr ⟨g, List.mem_of_getElem? e2', hg⟩) rfl
theorem Own3.glen {α : Type} {D : α → Od} {H : Hp} : ∀ {xs : List α} {vs : List V} {gs : List (List Addr)}, Own3 D H xs vs gs → xs.length = gs.length
  | _, _, _, .nil => rfl
  | _, _, _, .cons _ t => congrArg (· + 1) t.glen
def oSeq {α : Type} (D : α → Od) (xs : List α) (vs : List V) : Od where
  pr G H _ := ∃ gs, G = gs.flatten ∧ Own3 D H xs vs gs
  pd := pTrue
  frame := fun {G H H' v} h k f => by
    obtain ⟨gs, eg, q⟩ := h
    exact ⟨gs, eg, q.frame f fun a ha => k a (by rw [eg]; exact ha)⟩
  cells := fun {G H v} h a ha => by
    obtain ⟨gs, eg, q⟩ := h
    exact q.cells a (by rw [← eg]; exact ha)
  lockd := fun _ _ _ => trivial
def tArO {α β γ : Type} (F : Fm) (Γ : Gm) (Δ : Δs) (T : Option γ) (k : β → Option γ) (D : α → Od) (xs : β → List α) (Δ' : β → Δs) : TA := fun σ H Q =>
  Ok F Γ Δ σ H ∧ ∃ g, T = some g ∧ ∀ b vs H', k b = some g → St true H H' → Ok F Γ (⟨.non, oSeq D (xs b) vs, none⟩ :: Δ' b) σ H' → Q vs H'
theorem ao_nil {α : Type} {D : α → Od} {k : Unit → Option γ} : PA X [] (tArO F Γ Δ (k ()) k D (fun _ => []) fun _ => Δ) :=
  pa_nil.wk fun σ H Q ⟨ok, g, e, q⟩ => q () [] H e (St.refl H) (by
    obtain ⟨⟨Δ0, e, k⟩, n⟩ := ok
    exact ⟨⟨⟨[], .non, oSeq D [] [], none⟩ :: Δ0, by rw [List.map_cons, e]; rfl, k.cons List.nodup_nil (fun _ h => nomatch h) ⟨[], rfl, .nil⟩ (fun _ h => nomatch h)⟩, n⟩)
theorem Hk.glue {α : Type} {D : α → Od} {x : α} {xs : List α} {v : V} {vs : List V} {H : Hp} (k : Hk F (⟨.non, oSeq D xs vs, none⟩ :: ⟨v, D x, none⟩ :: Δ) H) : Hk F (⟨.non, oSeq D (x :: xs) (v :: vs), none⟩ :: Δ) H := by
  obtain ⟨Δ0, e, k⟩ := k
  match Δ0, e, k with
  | [], e, _ => cases e
  | [_], e, _ =>
    have := congrArg List.length e
    simp at this
  | c1 :: c2 :: R, e, k =>
    obtain ⟨G1, v1, d1, p1⟩ := c1
    obtain ⟨G2, v2, d2, p2⟩ := c2
    have e' : (⟨v1, d1, p1⟩ : Cell) = ⟨.non, oSeq D xs vs, none⟩ ∧ (⟨v2, d2, p2⟩ : Cell) = ⟨v, D x, none⟩ ∧ R.map Cel.fg = Δ := by simpa [Cel.fg] using e
    obtain ⟨e1, e2, e3⟩ := e'
    cases e1
    cases e2
    obtain ⟨gs, eg, q⟩ := k.del _ List.mem_cons_self
    have eg : G1 = gs.flatten := eg
    have m2 := k.del _ (List.mem_cons_of_mem _ List.mem_cons_self)
    have nd1 := k.ndup
    have k2 := k.less (.cons _ (List.Sublist.refl _))
    have nd2 := k2.ndup
    have k3 := k2.less (.cons _ (List.Sublist.refl _))
    have own : ∀ a, a ∈ G2 ∨ a ∈ G1 → F.H0 a = none := fun a ha => by
      rcases ha with ha | ha
      · rcases k.own _ (List.mem_cons_of_mem _ List.mem_cons_self) a ha with z | ⟨_, _, z, _⟩
        · exact z
        · cases z
      · rcases k.own _ List.mem_cons_self a ha with z | ⟨_, _, z, _⟩
        · exact z
        · cases z
    refine ⟨⟨G2 ++ G1, .non, oSeq D (x :: xs) (v :: vs), none⟩ :: R, by rw [List.map_cons, e3]; rfl, k3.cons ?_ (fun a ha hb => ?_) ⟨G2 :: gs, by rw [List.flatten_cons, ← eg], .cons m2 q⟩ fun a ha => .inl (own a (List.mem_append.mp ha))⟩
    · refine List.nodup_append.mpr ⟨nd2.1, nd1.1, fun a ha b hb e => ?_⟩
      subst e
      exact nd1.2.2 a hb (by rw [cellsOf_cons]; exact List.mem_append_left _ ha)
    · rcases List.mem_append.mp ha with h | h
      · exact nd2.2.2 a h hb
      · exact nd1.2.2 a h (by rw [cellsOf_cons]; exact List.mem_append_right _ hb)
theorem ao_cons {a : Expr} {es : List Expr} {α β1 β2 : Type} {T : Option γ} {k1 : β1 → Option γ} {k : β1 × β2 → Option γ} {D : α → Od} {x : β1 → α} {xs : β1 → β2 → List α} {Δ1 : β1 → Δs} {Δ2 : β1 → β2 → Δs}
    (ha : PE X a (tO true F Γ Δ T k1 (fun b => D (x b)) Δ1)) (hr : ∀ b1 v, PA X es (tArO F Γ (⟨v, D (x b1), none⟩ :: Δ1 b1) (k1 b1) (fun b2 => k (b1, b2)) D (xs b1) fun b2 => ⟨v, D (x b1), none⟩ :: Δ2 b1 b2)) (hs : starEach (a :: es) X.env = (false, eval a X.env) :: starEach es X.env := by rfl) :
    PA X (a :: es) (tArO F Γ Δ T k D (fun b => x b.1 :: xs b.1 b.2) fun b => Δ2 b.1 b.2) :=
  (pa_cons ha (pa_ex fun b1 => pa_ex fun v => hr b1 v) hs).wk fun σ H Q ⟨ok, g, e, q⟩ => ⟨ok, g, e, fun b1 v H1 kb f1 ok1 => ⟨b1, v, ok1.ok, g, kb, fun b2 vs H2 kb2 f2 ok2 => q (b1, b2) (v :: vs) H2 kb2 (f1.trans f2) ⟨ok2.hk.glue, ok2.nm⟩⟩⟩
theorem x_dispO {es : List Expr} {pos : Pos} {β α : Type} {T : Option γ} {k : β → Option γ} {D : α → Od} {xs : β → List α} {Δ1 : β → Δs} (ha : PA X es (tArO F Γ Δ T k D xs Δ1)) (hz : ∀ b, (xs b).length ≤ 1000) :
    PE X (.List es pos) (tO true F Γ Δ T k (fun b => oLO D (xs b)) Δ1) :=
  (pe_lst ha).wk fun σ H Q ⟨ok, g, e, q⟩ => ⟨ok, g, e, fun b vs H' kb f ok' => by
    have z : (xs b).length ≤ sizeLine := Nat.le_trans (hz b) (by decide)
    obtain ⟨⟨Δ0, e0, k0⟩, n⟩ := ok'
    match Δ0, e0, k0 with
    | c1 :: R, e0, k0 =>
      obtain ⟨G1, v1, d1, p1⟩ := c1
      have e' : (⟨v1, d1, p1⟩ : Cell) = ⟨.non, oSeq D (xs b) vs, none⟩ ∧ R.map Cel.fg = Δ1 b := by simpa [Cel.fg] using e0
      obtain ⟨e1, e2⟩ := e'
      cases e1
      obtain ⟨gs, eg, o3⟩ := k0.del _ List.mem_cons_self
      have eg : G1 = gs.flatten := eg
      refine ⟨by rw [← o3.len]; exact z, fun p np => ?_⟩
      have gr : Gr H' (upd H' p (.lst vs)) := Gr.new np
      have k1 := k0.gr gr
      have nd := k1.ndup
      have k2 := k1.less (.cons _ (List.Sublist.refl _))
      have pn : ∀ {a}, a ∈ cellsOf (⟨G1, .non, oSeq D (xs b) vs, none⟩ :: R) → a ≠ p := fun {a} h e => by
        obtain ⟨o, e3, _⟩ := k0.isC h
        rw [e, np] at e3; cases e3
      refine q b (.ref p) _ kb (f.trans gr.st) ⟨R, p :: G1, e2, k2.cons (c := ⟨p :: G1, .ref p, oLO D (xs b), none⟩) ?_ (fun a ha hb => ?_) ⟨p, vs, gs, by rw [eg], rfl, upd_same, z, o3.frame gr.fzs fun a _ o e => gr a o e⟩ (fun a ha => .inl ?_), (fun h => nomatch h), n.mono gr.fzs⟩
      · exact List.nodup_cons.mpr ⟨fun h => pn (by rw [cellsOf_cons]; exact List.mem_append_left _ h) rfl, nd.1⟩
      · rcases List.mem_cons.mp ha with e | ha
        · exact pn (a := a) (by rw [cellsOf_cons]; exact List.mem_append_right _ hb) e
        · exact nd.2.2 a ha hb
      · rcases List.mem_cons.mp ha with e | ha
        · rw [e]; exact k0.fresh0 np
        · rcases k0.own _ List.mem_cons_self a ha with z | ⟨_, _, z, _⟩
          · exact z
          · cases z⟩
theorem Own3.app {α : Type} {D : α → Od} {H : Hp} {y : α} {v : V} {g : List Addr} (r : (D y).pr g H v) : ∀ {xs : List α} {vs : List V} {gs : List (List Addr)}, Own3 D H xs vs gs → Own3 D H (xs ++ [y]) (vs ++ [v]) (gs ++ [g])
  | _, _, _, .nil => .cons r .nil
  | _, _, _, .cons a t => .cons a (t.app r)
end
end L3
end
section
set_option maxHeartbeats 4000000
namespace L3
open PySem PySem.Spec PyProof.Rows L2
section
variable {X : Cx} {W : Bool} {F : Fm} {Γ : Gm} {Δ : Δs} {γ : Type} {N : Fn γ} {rest : List Stmt}
theorem s_letOA {i : Nat} {st : Stmt} {β α : Type} {T : Option γ} {Δ' : β → Δs} {val : β → α} {k2 : β → α → Option γ} (D0 : α → Od) (hst : PS X st (tAsg (tO true F Γ Δ T (fun b => (some (val b)).bind (k2 b)) (fun b => D0 (val b)) Δ') (gName i)))
    (hr : ∀ b a v, PSs X rest (tS F (Γ.set i (some (pV v))) (⟨v, D0 a, none⟩ :: Δ' b) N (k2 b a))) : PSs X (st :: rest) (tS F Γ Δ N T) :=
  (pss_cons hst (pss_ex fun b => pss_ex fun v => hr b (val b) v)).wk fun D σ H ⟨ok, g, e, f⟩ => ⟨ok, g, e, fun b v H' kb fz ok' => ⟨b, v, ok'.ok.set rfl, g, kb, N.mono f fz.fz⟩⟩
theorem erase_perm {α : Type} {c : α} : ∀ {l : List α} {j : Nat}, l[j]? = some c → (c :: l.eraseIdx j).Perm l
  | [], _, h => by simp at h
  | x :: l, 0, h => by
    have e : x = c := by simpa using h
    rw [e]; exact List.Perm.refl _
  | x :: l, j + 1, h => by
    have q : l[j]? = some c := by simpa using h
    exact (List.Perm.swap x c _).trans ((erase_perm q).cons x)
theorem s_retV {e : Expr} {pos : Pos} {β ρ : Type} {T : Option γ} {Δ' : β → Δs} {P : ρ → Δs} {Ro : ρ → Od} {ι : ρ → γ} {rv : β → ρ} {v : V} (j : Nat) (hN : ∀ H r D, N.fin H (ι r) D → RO F P Ro r D.rt) (he : PE X e (tE true F Γ Δ T (fun b => some (ι (rv b))) (fun _ => pV v) Δ'))
    (hj : ∀ b, (Δ' b)[j]? = some ⟨v, Ro (rv b), none⟩) (hP : ∀ b, (P (rv b)).Sublist ((Δ' b).eraseIdx j)) : PSs X [.Return (some e) pos] (tS F Γ Δ N T) :=
  (pss_one (ps_ret he)).wk fun D σ H ⟨ok, g, e, f⟩ => ⟨ok, g, e, fun b w H' kb fz ok' hw => by
    have eg : g = ι (rv b) := (Option.some.inj kb).symm
    rw [eg] at f
    have hw : w = v := hw
    subst hw
    exact hN _ _ D f w H' ((ok'.hk.perm (erase_perm (hj b)).symm).less ((hP b).cons₂ _))⟩
end
end L3
end
section
set_option maxHeartbeats 4000000
namespace L3
open PySem PySem.Spec PyProof.Rows L2
section
variable {X : Cx} {W : Bool} {F : Fm} {Γ : Gm} {Δ : Δs} {γ : Type}
section
variable {a : Expr} {pos : Pos} {β : Type} {T : Option γ} {k : β → Option γ} {Δ1 : β → Δs} {i : β → Int}
theorem x_neg (ha : PE X a (tE W F Γ Δ T k (fun b => pInt (i b)) Δ1)) : PE X (.UnaryOp .USub a pos) (tE W F Γ Δ T k (fun b => pInt (-(i b))) Δ1) :=
  x1t (u_un un_neg) ha fun b σ v H Q _ hv q => ⟨i b, hv, q _ rfl⟩
end
section
variable {a b : Expr} {pos : Pos} {β1 β2 : Type} {T : Option γ} {k1 : β1 → Option γ} {k : β1 × β2 → Option γ} {Δ1 : β1 → Δs} {Δ2 : β1 → β2 → Δs} {i : β1 → Str} {j : β1 → β2 → Str}
theorem x_addS (ha : PE X a (tE W F Γ Δ T k1 (fun b => pStr (i b)) Δ1)) (hb : ∀ b1, PE X b (tE W F Γ (Δ1 b1) (k1 b1) (fun b2 => grd ((i b1).length + (j b1 b2).length ≤ sizeLine) (k (b1, b2))) (fun b => pStr (j b1 b)) (Δ2 b1))) :
    PE X (.BinOp a .Add b pos) (tE W F Γ Δ T k (fun b => pStr (i b.1 ++ j b.1 b.2)) fun b => Δ2 b.1 b.2) :=
  x2g (b_op op_add_str) ha hb fun b1 b2 _ v w H Q _ c hv hw q => ⟨i b1, j b1 b2, hv, hw, c, q _ rfl⟩
end
theorem co_none {α β : Type} {E : α → Pd} {e : Expr} {T : Option γ} {k : β → Option γ} {Δ' : β → Δs} (he : PE X e (tE W F Γ Δ T k (fun _ => pNon) Δ')) : PE X e (tE W F Γ Δ T k (fun _ => pOp E (none : Option α)) Δ') := he
theorem co_some {α β : Type} {E : α → Pd} {x : β → α} {e : Expr} {T : Option γ} {k : β → Option γ} {Δ' : β → Δs} (he : PE X e (tE W F Γ Δ T k (fun b => E (x b)) Δ')) : PE X e (tE W F Γ Δ T k (fun b => pOp E (some (x b))) Δ') := he
def oSel {α β : Type} (o : Option α) (a b : β) : β := match o with
  | none => a
  | some _ => b
theorem tyOp {α : Type} {E : α → Pd} {t : String} {o : Option α} (h : ∀ x, TyP Δ (E x) t) : TyP Δ (pOp E o) (oSel o "NoneType" t) := by
  cases o with
  | none => exact tyNon
  | some x => exact h x
theorem kitOp {α : Type} {a b c : String} {r q : Bool} {o : Option α} (h1 : kitB a c = some r) (h2 : kitB b c = some q) : kitB (oSel o a b) c = some (oSel o r q) := by cases o <;> assumption
def opS : Option Str → V
  | none => .non
  | some i => .str i
def flOpS : Flat (pOp pStr) := ⟨opS, fun {x H v} h => by cases x <;> exact h, fun {x H} => by cases x <;> rfl, fun x => by cases x <;> rfl, fun x y => by
  cases x with
  | none => cases y <;> rfl
  | some a => cases y with
    | none => rfl
    | some b => show (a == b) = _; by_cases h : a = b <;> simp [h]⟩
section
variable {a b : Expr} {pos : Pos} {β1 β2 : Type} {T : Option γ} {k1 : β1 → Option γ} {k : β1 × β2 → Option γ} {Δ1 : β1 → Δs} {Δ2 : β1 → β2 → Δs} {i : β1 → Option Int} {j : β1 → β2 → Option Int} {c : β1 → Option Str} {d : β1 → β2 → Option Str}
theorem scOS (x y : Option Str) : scal (flOpS.mp x) (flOpS.mp y) = true := by cases x <;> cases y <;> rfl
theorem inOS (x y : Option Str) (h : flOpS.mp x = flOpS.mp y) : x = y := by cases x <;> cases y <;> first | rfl | (cases h; done) | (cases h; rfl)
theorem t_neOS (ha : PE X a (tE W F Γ Δ T k1 (fun b => pOp pStr (c b)) Δ1)) (hb : ∀ b1, PE X b (tE W F Γ (Δ1 b1) (k1 b1) (fun b2 => k (b1, b2)) (fun b => pOp pStr (d b1 b)) (Δ2 b1))) : PT X (.Compare a [.NotEq] [b] pos) (tTs W F Γ Δ T k (fun b => !decide (c b.1 = d b.1 b.2)) fun b => Δ2 b.1 b.2) := t2t (bt_cmp op_ne (nomark _)) ha hb (v_neF flOpS scOS inOS)
end
section
variable {T : Option γ}
theorem y_var (i : Nat) {x : Str} {pos : Pos} {p : Pd} (h : Γ[i]? = some (some p) := by rfl) (hN : X.N[i]? = some x := by rfl) (hv : Vis X.env.scope x := by first | exact Or.inl rfl | exact Or.inr (Or.inl rfl) | exact Or.inr (Or.inr rfl))
    (hd : (x == ("__debug__" : Str)) = false := by decide) (hcd : (x == ("__classdict__" : Str)) = false := by decide) : PE X (.Name x pos) (tE W F Γ Δ T (fun _ : Unit => T) (fun _ => p) fun _ => Δ) := x_var (k := fun _ => T) i h hN hv hd hcd
theorem b_nil : PA X [] (tAr W F Γ Δ T (fun _ : Unit => T) (fun _ => []) fun _ => Δ) := a_nil (k := fun _ => T)
end
end
end L3
end
section
set_option maxHeartbeats 4000000
namespace L3
open PySem PySem.Spec PyProof.Rows L2
section
variable {X : Cx} {W : Bool} {F : Fm} {Γ : Gm} {Δ : Δs} {γ : Type}
theorem x_out {β : Type} {e : Expr} {T T' : Option γ} {k : β → Option γ} {E E' : β → Pd} {Δ' Δ'' : β → Δs} (h : PE X e (tE W F Γ Δ T' k E' Δ''))
    (hT : T = T' := by rfl) (hE : ∀ b, E b = E' b := by intro _; rfl) (hΔ : ∀ b, Δ' b = Δ'' b := by intro _; rfl) : PE X e (tE W F Γ Δ T k E Δ') := by
  have e1 : E = E' := funext hE
  have e2 : Δ' = Δ'' := funext hΔ
  subst hT e1 e2
  exact h
theorem t_out {β : Type} {e : List Expr} {T T' : Option γ} {k : β → Option γ} {c c' : β → Bool} {Δ' Δ'' : β → Δs} (h : PTs X e (tTs W F Γ Δ T' k c' Δ''))
    (hT : T = T' := by rfl) (hE : ∀ b, c b = c' b := by intro _; rfl) (hΔ : ∀ b, Δ' b = Δ'' b := by intro _; rfl) : PTs X e (tTs W F Γ Δ T k c Δ') := by
  have e1 : c = c' := funext hE
  have e2 : Δ' = Δ'' := funext hΔ
  subst hT e1 e2
  exact h
theorem x_kd {β : Type} {e : Expr} {T : Option γ} {k : β → Option γ} {E E' : β → Pd} {Δ' : β → Δs} (h : PE X e (tE W F Γ Δ T k E' Δ')) (hE : ∀ b, E b = E' b := by intro _; rfl) : PE X e (tE W F Γ Δ T k E Δ') := by
  have e1 : E = E' := funext hE
  subst e1
  exact h
theorem o_kd {β : Type} {e : Expr} {T : Option γ} {k : β → Option γ} {E E' : β → Od} {Δ' : β → Δs} (h : PE X e (tO W F Γ Δ T k E' Δ')) (hE : ∀ b, E b = E' b := by intro _; rfl) : PE X e (tO W F Γ Δ T k E Δ') := by
  have e1 : E = E' := funext hE
  subst e1
  exact h
theorem t_kd {β : Type} {e : Expr} {T : Option γ} {k : β → Option γ} {c c' : β → Bool} {Δ' : β → Δs} (h : PT X e (tTs W F Γ Δ T k c' Δ')) (hE : ∀ b, c b = c' b := by intro _; rfl) : PT X e (tTs W F Γ Δ T k c Δ') := by
  have e1 : c = c' := funext hE
  subst e1
  exact h
theorem s_T {st : List Stmt} {N : Fn γ} {T T' : Option γ} (h : PSs X st (tS F Γ Δ N T')) (hT : T = T' := by rfl) : PSs X st (tS F Γ Δ N T) := by
  subst hT
  exact h
theorem t_totV {β : Type} {e : Expr} {T : Option γ} {c : β → Bool} {Δ' : β → Δs} (c0 : Bool) (b0 : β) (hβ : ∀ b, b = b0) (he : PT X e (tTs W F Γ Δ T (fun _ : β => T) c Δ')) (hΔ : Δ = Δ' b0 := by rfl) (hc : c0 = c b0 := by rfl) : PT X e (tTs W F Γ Δ T (fun _ : Unit => T) (fun _ => c0) fun _ => Δ) := by
  have h := t_tot b0 hβ he
  rw [← hc, ← hΔ] at h
  exact h
theorem x_totV {β : Type} {e : Expr} {T : Option γ} {E : β → Pd} {Δ' : β → Δs} (E0 : Pd) (b0 : β) (hβ : ∀ b, b = b0) (he : PE X e (tE W F Γ Δ T (fun _ : β => T) E Δ')) (hΔ : Δ = Δ' b0 := by rfl) (hc : E0 = E b0 := by rfl) : PE X e (tE W F Γ Δ T (fun _ : Unit => T) (fun _ => E0) fun _ => Δ) := by
  have h := x_tot b0 hβ he
  rw [← hc, ← hΔ] at h
  exact h
end
end L3
end
section
set_option maxHeartbeats 4000000
namespace L3
open PySem PySem.Spec PyProof.Rows L2
def pS (K : PySem.W.Frag) (xs : List Int) : Pd where
  pr H v := ∃ a, v = .ref a ∧ xs.length ≤ sizeLine ∧ ((∃ o, H a = some (.frz o (.lst (xs.map V.int)))) ∨ ∃ (o : Obj) (its : Array Value) (n : Nat), K.lookup a = some o ∧ o.cls = .type "list" ∧ o.dict = none ∧ o.data = .seq its n ∧ its.size ≤ sizeLine ∧ Vals (xs.map V.int) its.toList)
  mono := fun f ⟨a, e, z, h⟩ => ⟨a, e, z, h.imp (fun ⟨o, h⟩ => ⟨o, f _ _ trivial h⟩) id⟩
theorem pS_sq {K : PySem.W.Frag} {xs : List Int} {H : Hp} {v : V} (h : (pS K xs).pr H v) : ∃ a, v = .ref a ∧ SqL K H a (xs.map V.int) ∧ xs.length ≤ sizeLine := by
  obtain ⟨a, e, z, h⟩ := h
  refine ⟨a, e, ?_, z⟩
  rcases h with ⟨o, h⟩ | h
  · exact .inl (.inr ⟨o, h⟩)
  · exact .inr h
theorem pS_of {K : PySem.W.Frag} {xs : List Int} {H : Hp} {v : V} (h : (pL pInt xs).pr H v) : (pS K xs).pr H v := by
  obtain ⟨a, o, vs, e, h, z, p⟩ := h
  rw [paired_ints p] at h
  exact ⟨a, e, z, .inl ⟨o, h⟩⟩
section
variable {X : Cx} {W : Bool} {F : Fm} {Γ : Gm} {Δ : Δs} {γ : Type}
section
variable {a b : Expr} {pos : Pos} {β1 β2 : Type} {T : Option γ} {k1 : β1 → Option γ} {Δ1 : β1 → Δs} {Δ2 : β1 → β2 → Δs} {xs : β1 → List Int} {j : β1 → β2 → Int}
theorem x_ixS {k : (β1 × β2) × Int → Option γ} (ha : PE X a (tE W F Γ Δ T k1 (fun b => pS X.K (xs b)) Δ1)) (hb : ∀ b1, PE X b (tE W F Γ (Δ1 b1) (k1 b1) (fun b2 => (atI (xs b1) (j b1 b2)).bind fun x => k ((b1, b2), x)) (fun b => pInt (j b1 b)) (Δ2 b1)))
    (hs : PlainIx b := by exact fun _ _ => rfl) : PE X (.Subscript a b pos) (tE W F Γ Δ T k (fun b => pInt b.2) fun b => Δ2 b.1.1 b.1.2) :=
  x2p (b_ix ix_list hs) ha hb fun b1 b2 x σ v w H Q ok e hv hw q => by
    obtain ⟨p, ev, sq, _⟩ := pS_sq hv
    obtain ⟨u, eu, pu⟩ := paired_atI (ints_paired (H := H) (xs b1)) e
    exact ⟨p, _, j b1 b2, u, ev, hw, sq, eu, q u pu⟩
end
section
variable {a : Expr} {pos p : Pos} {β : Type} {T : Option γ} {Δ1 : β → Δs} {xs : β → List Int} {k : β → Option γ}
theorem x_lenS (hm : X.mg "len" = none) (ha : PE X a (tE W F Γ Δ T k (fun b => pS X.K (xs b)) Δ1)) (hg : Gl X "len" := by rfl) (hs : starEach [a] X.env = (false, eval a X.env) :: starEach [] X.env := by rfl) : PE X (.Call (.Name "len" p) [a] [] pos) (tE W F Γ Δ T k (fun b => pInt ((xs b).length : Int)) Δ1) :=
  x1t (u_callB call_len_seq hg hm PySem.boot_len (by decide) (by decide) hs) ha fun b σ v H Q ok hv q => by
    obtain ⟨p, ev, sq, _⟩ := pS_sq hv
    rw [ev]
    exact ⟨p, _, rfl, .inl sq, by rw [List.length_map]; exact q _ rfl⟩
end
end
def Sp_S (K : PySem.W.Frag) (Mf : List Int → Option Bool) : Sp := fun vs H Q _ => ∃ (a : Addr) (ns : List Int), vs = [.ref a] ∧ ns.length ≤ sizeLine ∧ SqL K H a (ns.map V.int) ∧ ∃ r, Mf ns = some r ∧ ∀ H', Q (.bl r) H'
theorem fn_S {P : Program} {w : World} {K : PySem.W.Frag} {mg : Str → Option Value} {base : Heap} {x qual : Str} {params : Arguments} {body : List Stmt} {scope : Scope} {dvs : List V} {kws : List (Str × V)} {f : Addr} {fd : FuncData} {N ps : List Str} {k : Nat} {Mf : List Int → Option Bool}
    (FD : FunD K x qual params body scope dvs kws f fd) (S : FnScope N ps scope) (hl : 1 = ps.length)
    (hb : ∀ (cdv : Value) (A : Around) (outer : List Env) (s : Shared) (H : Hp) (E : XK) (hr : Room k (A.deeper (envOfC qual scope s.heap.objs.size f cdv))) (M : List (List Addr)) (a1 : List Int), PSs (cxOf CX0 P w K mg base N qual scope f cdv A outer s H E).nox body
      (tS ⟨H, M⟩ (([pS K a1] : List Pd).map some ++ List.replicate (N.length - 1) none) [] (fF (RF ⟨H, M⟩ (fun _ => []) pBl)) (Mf a1))) : FnOk P w K mg base CX0 (k + 1) f fd ps (Sp_S K Mf) := by
  refine FD.ok S (fun vs H Q E h => ?_) (fun cdv A outer s H vs Q E hr h => ?_)
  · obtain ⟨a, ns, rfl, _⟩ := h
    exact hl
  · obtain ⟨a, ns, rfl, z, sq, r, hM, fin⟩ := h
    have fin' : ∀ M, RF ⟨H, M⟩ (fun _ => []) pBl r Q := fun M v H' _ hv => by
      rw [show v = .bl r from hv]
      exact fin H'
    by_cases hu : H a = some (.lst (ns.map V.int))
    · refine ⟨tS ⟨H, [[a]]⟩ (([pV (.ref a)] : List Pd).map some ++ List.replicate (N.length - 1) none) [⟨.ref a, oL pInt ns, some 0⟩] (fF (RF ⟨H, [[a]]⟩ (fun _ => []) pBl)) (Mf ns), PSs.nox (s_frz (i := 0) (c := ⟨.ref a, oL pInt ns, some 0⟩) 0 ?_), ok_start (Δ := [⟨[a], .ref a, oL pInt ns, some 0⟩]) rfl (.cons rfl .nil) ?_ ?_ ?_, r, hM, fin' _⟩
      · refine (hb cdv A outer s H E hr [[a]] ns).wk fun D σ H' ⟨ok, g, e, q⟩ => ⟨⟨ok.hk, ok.len, fun i p e => ?_⟩, g, e, q⟩
        cases i with
        | zero =>
          cases e
          obtain ⟨v, hs, hv⟩ := ok.gam 0 (pL pInt ns) rfl
          exact ⟨v, hs, pS_of hv⟩
        | succ i => exact ok.gam (i + 1) p e
      · intro c hc
        rw [List.mem_singleton.mp hc]
        exact ⟨a, ns.map V.int, rfl, rfl, hu, z, ints_paired ns⟩
      · exact List.nodup_cons.mpr ⟨by simp, List.nodup_nil⟩
      · intro i c h
        match i, h with
        | 0, h => cases h; rfl
        | _ + 1, h => cases h
    · refine ⟨_, PSs.nox (hb cdv A outer s H E hr [] ns), ok_start (Δ := []) rfl (.cons ⟨a, rfl, z, ?_⟩ .nil) (fun _ h => nomatch h) List.nodup_nil (fun _ _ h => nomatch h), r, hM, fin' _⟩
      rcases sq with (h | ⟨o, h⟩) | h
      · exact absurd h hu
      · exact .inl ⟨o, h⟩
      · exact .inr h
end L3
end
section
set_option maxHeartbeats 4000000
namespace L3
open PySem PySem.Spec PyProof.Rows L2
section
variable {κ α : Type} [DecidableEq κ]
def dget (d : List (κ × α)) (k : κ) : Option α := (d.find? fun p => decide (p.1 = k)).map (·.2)
def dhas (d : List (κ × α)) (k : κ) : Bool := d.any fun p => decide (p.1 = k)
def dput (d : List (κ × α)) (k : κ) (v : α) : List (κ × α) := if (d.any fun p => decide (p.1 = k)) = true then d.map (fun p => if p.1 = k then (p.1, v) else p) else d ++ [(k, v)]
def ddel (d : List (κ × α)) (k : κ) : List (κ × α) := d.filter fun p => decide (p.1 ≠ k)
theorem dhas_get (k : κ) : ∀ d : List (κ × α), dhas d k = (dget d k).isSome
  | [] => rfl
  | p :: r => by
    have ih := dhas_get k r
    unfold dhas dget at ih ⊢
    rw [List.any_cons, List.find?_cons]
    by_cases h : p.1 = k
    · simp [h]
    · simp only [decide_eq_false h, Bool.false_or]; exact ih
theorem dput_len (d : List (κ × α)) (k : κ) (v : α) : (dput d k v).length ≤ d.length + 1 := by
  unfold dput
  split
  · rw [List.length_map]; omega
  · rw [List.length_append]; exact Nat.le_refl _
end
section
variable {κ α : Type} [DecidableEq κ] [Ky κ]
def oM (E : α → Pd) (xs : List (κ × α)) : Od where
  pr G H v := ∃ p kvs, G = [p] ∧ v = .ref p ∧ H p = some (.dK kvs) ∧ xs.length ≤ sizeLine ∧ Paired (PrM E H) xs kvs
  pd := pM E xs
  frame := fun ⟨p, vs, eg, ev, h, z, q⟩ k f => ⟨p, vs, eg, ev, k p (by rw [eg]; exact List.mem_singleton.mpr rfl) _ h, z, prM_mono f q⟩
  cells := fun ⟨p, vs, eg, ev, h, z, q⟩ => one_cells eg h trivial
  lockd := fun ⟨p, vs, eg, ev, h, z, q⟩ h1 h2 => by
    obtain ⟨o, ho⟩ := h2 p (by rw [eg]; exact List.mem_singleton.mpr rfl) _ h
    exact ⟨p, o, vs, ev, ho, z, prM_mono (lk_fzs (one_cells eg h trivial) h1) q⟩
theorem dget_neg {κ α : Type} [DecidableEq κ] {p : κ × α} {r : List (κ × α)} {k : κ} (h : ¬ p.1 = k) : dget (p :: r) k = dget r k := by unfold dget; rw [List.find?_cons, decide_eq_false h]
theorem dget_pos {κ α : Type} [DecidableEq κ] {p : κ × α} {r : List (κ × α)} {k : κ} (h : p.1 = k) : dget (p :: r) k = some p.2 := by unfold dget; rw [List.find?_cons, decide_eq_true h]; rfl
theorem prM_get {E : α → Pd} {H : Hp} (k : κ) : ∀ {xs : List (κ × α)} {us : List (Key × V)}, Paired (PrM E H) xs us → (dget xs k = none ∧ valV us (Ky.ky k) = none) ∨ ∃ x v, dget xs k = some x ∧ valV us (Ky.ky k) = some v ∧ (E x).pr H v
  | [], [], .nil => .inl ⟨rfl, rfl⟩
  | x :: xs, u :: us, .cons r t => by
    by_cases h : x.1 = k
    · exact .inr ⟨x.2, u.2, dget_pos h, valV_pos (by rw [r.1, h]), r.2⟩
    · rw [dget_neg h, valV_neg (fun z => h (Ky.inj (by rw [← r.1, z])))]
      exact prM_get k t
theorem prM_any {E : α → Pd} {H : Hp} (k : κ) : ∀ {xs : List (κ × α)} {us : List (Key × V)}, Paired (PrM E H) xs us → (xs.any fun p => decide (p.1 = k)) = us.any fun kv => decide (kv.1 = Ky.ky k)
  | _, _, .nil => rfl
  | _, _, .cons (a := x) (b := u) r t => by
    rw [List.any_cons, List.any_cons, prM_any k t]
    congr 1
    by_cases h : x.1 = k
    · rw [decide_eq_true h, decide_eq_true (by rw [r.1, h])]
    · rw [decide_eq_false h, decide_eq_false (fun z => h (Ky.inj (by rw [← r.1, z])))]
theorem prM_map {E : α → Pd} {H : Hp} {k : κ} {y : α} {v : V} (hv : (E y).pr H v) : ∀ {xs : List (κ × α)} {us : List (Key × V)}, Paired (PrM E H) xs us → Paired (PrM E H) (xs.map fun p => if p.1 = k then (p.1, y) else p) (us.map fun kv => if kv.1 = Ky.ky k then (kv.1, v) else kv)
  | _, _, .nil => .nil
  | _, _, .cons (a := x) (b := u) r t => by
    rw [List.map_cons, List.map_cons]
    refine .cons ?_ (prM_map hv t)
    by_cases h : x.1 = k
    · rw [if_pos h, if_pos (by rw [r.1, h])]
      exact ⟨r.1, hv⟩
    · rw [if_neg h, if_neg (fun z => h (Ky.inj (by rw [← r.1, z])))]
      exact r
theorem prM_put {E : α → Pd} {H : Hp} {k : κ} {y : α} {v : V} (hv : (E y).pr H v) {xs : List (κ × α)} {us : List (Key × V)} (h : Paired (PrM E H) xs us) : Paired (PrM E H) (dput xs k y) (putK us (Ky.ky k) v) := by
  unfold dput putK
  rw [prM_any k h]
  split
  · exact prM_map hv h
  · exact paired_app h (.cons ⟨rfl, hv⟩ .nil)
theorem prM_keys {E : α → Pd} {H : Hp} : ∀ {xs : List (κ × α)} {us : List (Key × V)}, Paired (PrM E H) xs us → us.map (·.1) = xs.map fun p => Ky.ky p.1
  | _, _, .nil => rfl
  | _, _, .cons r t => by rw [List.map_cons, List.map_cons, prM_keys t, r.1]
theorem prM_keyP {E : α → Pd} {H H' : Hp} : ∀ {xs : List (κ × α)} {us : List (Key × V)}, Paired (PrM E H) xs us → Paired (fun (x : κ) u => (Ky.kp x).pr H' u) (xs.map Prod.fst) (us.map fun kv => kV kv.1)
  | _, _, .nil => .nil
  | _, _, .cons r t => by
    rw [List.map_cons, List.map_cons]
    refine .cons ?_ (prM_keyP t)
    rw [r.1]
    exact Ky.of _ _
end
section
variable {X : Cx} {W : Bool} {F : Fm} {Γ : Gm} {Δ : Δs} {γ : Type} {κ α : Type} [DecidableEq κ] [Ky κ]
def RM (E : α → Pd) (xs : List (κ × α)) (H : Hp) (v : V) : Prop := ∃ a kvs, v = .ref a ∧ Rd H a (.dK kvs) ∧ xs.length ≤ sizeLine ∧ Paired (PrM E H) xs kvs
def RdM (Δ : Δs) (p : Pd) (E : α → Pd) (xs : List (κ × α)) : Prop := ∀ F H v, Hk F Δ H → p.pr H v → RM E xs H v
theorem rdMF {E : α → Pd} {xs : List (κ × α)} : RdM Δ (pM E xs) E xs := fun _ _ _ _ ⟨a, o, vs, e, h, z, p⟩ => ⟨a, vs, e, .inr ⟨o, h⟩, z, p⟩
theorem Ok.newM {σ : SS} {H : Hp} {p : Addr} {E : α → Pd} {xs : List (κ × α)} {kvs : List (Key × V)} (ok : Ok F Γ Δ σ H) (hp : H p = none) (z : xs.length ≤ sizeLine) (q : Paired (PrM E H) xs kvs) : OkN W F Γ H (.ref p) (oM E xs) Δ σ (upd H p (.dK kvs)) ∧ Gr H (upd H p (.dK kvs)) := by
  have g : Gr H (upd H p (.dK kvs)) := Gr.new hp
  exact ⟨ok.add g (List.nodup_cons.mpr ⟨List.not_mem_nil, List.nodup_nil⟩) (fun a ha => by rw [List.mem_singleton.mp ha]; exact hp) ⟨p, kvs, rfl, rfl, upd_same, z, prM_mono g.fzs q⟩, g⟩
section
variable {a b : Expr} {pos : Pos} {β1 β2 : Type} {T : Option γ} {k1 : β1 → Option γ} {Δ1 : β1 → Δs} {Δ2 : β1 → β2 → Δs} {E1 : β1 → Pd} {Ee : α → Pd} {xs : β1 → β2 → List (κ × α)} {j : β1 → β2 → κ}
theorem x_dget {k : (β1 × β2) × α → Option γ} (hu : X.A.units + 64 < cLine) (ha : PE X a (tE W F Γ Δ T k1 E1 Δ1)) (hb : ∀ b1, PE X b (tE W F Γ (Δ1 b1) (k1 b1) (fun b2 => (dget (xs b1 b2) (j b1 b2)).bind fun x => k ((b1, b2), x)) (fun b => Ky.kp (j b1 b)) (Δ2 b1)))
    (rd : ∀ b1 b2, RdM (Δ2 b1 b2) (E1 b1) Ee (xs b1 b2)) (hs : NoSl b := by exact fun _ _ => rfl) : PE X (.Subscript a b pos) (tE W F Γ Δ T k (fun b => Ee b.2) fun b => Δ2 b.1.1 b.1.2) :=
  x2p (r := fun x y H Q => ∃ a v, x = .ref a ∧ DGet H a y (some v) ∧ Q v H) (fun _ _ ha hb => pe_dget (by omega) ha hb hs) ha hb fun b1 b2 x σ v w H Q ok e hv hw q => by
    obtain ⟨p, kvs, ev, r, _, pr⟩ := rd b1 b2 F H v ok.hk hv
    rcases prM_get (j b1 b2) pr with ⟨e0, _⟩ | ⟨x', u, e1, e2, hu⟩
    · rw [e] at e0; cases e0
    · rw [e] at e1; cases e1
      exact ⟨p, u, ev, .inl ⟨kvs, Ky.ky (j b1 b2), r, Ky.is hw, e2.symm⟩, q u hu⟩
end
section
variable {a b : Expr} {pos : Pos} {β1 β2 : Type} {T : Option γ} {k1 : β1 → Option γ} {k : β1 × β2 → Option γ} {Δ1 : β1 → Δs} {Δ2 : β1 → β2 → Δs} {E2 : β1 → β2 → Pd} {Ee : α → Pd} {xs : β1 → β2 → List (κ × α)} {i : β1 → κ}
theorem has_of {E : α → Pd} {H : Hp} {xs : List (κ × α)} {us : List (Key × V)} (k : κ) (p : Paired (PrM E H) xs us) : (valV us (Ky.ky k)).isSome = dhas xs k := by
  rw [dhas_get]
  rcases prM_get k p with ⟨e0, e1⟩ | ⟨x, v, e0, e1, _⟩ <;> rw [e0, e1] <;> rfl
theorem t_dinG {op : CmpOp} {c : Bool → Bool} (hp : ∀ ta tb, PE X a ta → PE X b tb → PC X op a b (fun σ H Q => ta σ H fun y H1 => tb σ H1 fun x H2 => ∃ a o, x = .ref a ∧ DGet H2 a y o ∧ Q (.bl (c o.isSome)) H2)) (hm : behindInMarks op b = false)
    (ha : PE X a (tE W F Γ Δ T k1 (fun b => Ky.kp (i b)) Δ1)) (hb : ∀ b1, PE X b (tE W F Γ (Δ1 b1) (k1 b1) (fun b2 => k (b1, b2)) (E2 b1) (Δ2 b1))) (rd : ∀ b1 b2, RdM (Δ2 b1 b2) (E2 b1 b2) Ee (xs b1 b2)) :
    PT X (.Compare a [op] [b] pos) (tTs W F Γ Δ T k (fun b => c (dhas (xs b.1 b.2) (i b.1))) fun b => Δ2 b.1 b.2) :=
  t2t (r := fun y x H Q => ∃ a o, x = .ref a ∧ DGet H a y o ∧ Q (.bl (c o.isSome)) H) (fun ta tb ha hb => (pt_cmp (hp ta tb ha hb) hm).wk fun σ H Q h => h) ha hb fun b1 b2 σ v w H Q ok hv hw q => by
    obtain ⟨p, kvs, ev, r, _, pr⟩ := rd b1 b2 F H w ok.hk hw
    refine ⟨p, valV kvs (Ky.ky (i b1)), ev, .inl ⟨kvs, _, r, Ky.is hv, rfl⟩, ?_⟩
    rw [has_of (i b1) pr]
    exact q _ rfl
theorem t_din (hu : X.A.units + 64 < cLine) (ha : PE X a (tE W F Γ Δ T k1 (fun b => Ky.kp (i b)) Δ1)) (hb : ∀ b1, PE X b (tE W F Γ (Δ1 b1) (k1 b1) (fun b2 => k (b1, b2)) (E2 b1) (Δ2 b1))) (rd : ∀ b1 b2, RdM (Δ2 b1 b2) (E2 b1 b2) Ee (xs b1 b2)) (hm : behindInMarks .In b = false := by rfl) :
    PT X (.Compare a [.In] [b] pos) (tTs W F Γ Δ T k (fun b => dhas (xs b.1 b.2) (i b.1)) fun b => Δ2 b.1 b.2) := t_dinG (c := id) (fun _ _ ha hb => pc_din (by omega) ha hb) hm ha hb rd
theorem t_dnin (hu : X.A.units + 64 < cLine) (ha : PE X a (tE W F Γ Δ T k1 (fun b => Ky.kp (i b)) Δ1)) (hb : ∀ b1, PE X b (tE W F Γ (Δ1 b1) (k1 b1) (fun b2 => k (b1, b2)) (E2 b1) (Δ2 b1))) (rd : ∀ b1 b2, RdM (Δ2 b1 b2) (E2 b1 b2) Ee (xs b1 b2)) (hm : behindInMarks .NotIn b = false := by rfl) :
    PT X (.Compare a [.NotIn] [b] pos) (tTs W F Γ Δ T k (fun b => !dhas (xs b.1 b.2) (i b.1)) fun b => Δ2 b.1 b.2) := t_dinG (c := fun x => !x) (fun _ _ ha hb => pc_dnotin (by omega) ha hb) hm ha hb rd
end
end
end L3
end
section
set_option maxHeartbeats 4000000
namespace L3
open PySem PySem.Spec PyProof.Rows L2
section
variable {X : Cx} {W : Bool} {F : Fm} {Γ : Gm} {Δ : Δs} {γ : Type} {κ α : Type} [DecidableEq κ] [Ky κ]
theorem call_lenM : CallR X (.builtin "len") (fun xs H Q => ∃ a kvs, xs = [V.ref a] ∧ Rd H a (.dK kvs) ∧ Q (.int kvs.length) H) := by
  intro pins s σ H xs us Q I r h
  obtain ⟨a, kvs, rfl, ha, q⟩ := h
  obtain ⟨u, rfl, ru⟩ := vals1 r
  cases ru
  exact d_len I ha fun t s' I' => ⟨.int kvs.length, H, I', ⟨t, rfl⟩, q⟩
section
variable {e a : Expr} {r : V → Hp → VK → Prop} {β : Type} {T : Option γ} {E1 : β → Pd} {Δ1 : β → Δs}
end
section
variable {a : Expr} {pos p : Pos} {β : Type} {T : Option γ} {Δ1 : β → Δs} {E1 : β → Pd} {Ee : α → Pd} {xs : β → List (κ × α)} {k : β → Option γ}
theorem x_lenM (hm : X.mg "len" = none) (ha : PE X a (tE W F Γ Δ T k E1 Δ1)) (rd : ∀ b, RdM (Δ1 b) (E1 b) Ee (xs b)) (hg : Gl X "len" := by rfl) (hs : starEach [a] X.env = (false, eval a X.env) :: starEach [] X.env := by rfl) : PE X (.Call (.Name "len" p) [a] [] pos) (tE W F Γ Δ T k (fun b => pInt ((xs b).length : Int)) Δ1) :=
  x1t (u_callB call_lenM hg hm PySem.boot_len (by decide) (by decide) hs) ha fun b σ v H Q ok hv q => by
    obtain ⟨p, vs, ev, sq, _, pr⟩ := rd b F H v ok.hk hv
    rw [ev]
    exact ⟨p, vs, rfl, sq, by rw [← paired_len pr]; exact q _ rfl⟩
theorem x_listD (hm : X.mg "list" = none) (ha : PE X a (tE W F Γ Δ T k E1 Δ1)) (rd : ∀ b, RdM (Δ1 b) (E1 b) Ee (xs b)) (hg : Gl X "list" := by rfl) (hs : starEach [a] X.env = (false, eval a X.env) :: starEach [] X.env := by rfl) (hc : X.calm = true := by rfl) : PE X (.Call (.Name "list" p) [a] [] pos) (tO W F Γ Δ T k (fun b => oL Ky.kp ((xs b).map Prod.fst)) Δ1) :=
  x1n (u_callTy (call_listD hc) hg hm (by decide +kernel) (by decide) (by decide) hs) ha fun b σ v H Q ok hv q => by
    obtain ⟨p, vs, ev, sq, z, pr⟩ := rd b F H v ok.hk hv
    rw [ev]
    exact ⟨p, vs, rfl, sq, fun l hl => q l _ hl (by rw [List.length_map]; exact z) (prM_keyP pr)⟩
end
theorem x_dict0 {pos : Pos} {k : Unit → Option γ} (Ee : α → Pd) : PE X (.Dict [] [] pos) (tO W F Γ Δ (k ()) k (fun _ => oM (κ := κ) Ee []) fun _ => Δ) :=
  pe_dnewK.wk fun σ H Q ⟨ok, g, e, q⟩ p np => by
    obtain ⟨o2, f2⟩ := ok.newM (E := Ee) (xs := ([] : List (κ × α))) np (Nat.zero_le _) .nil
    exact q () _ _ e f2.st o2
theorem i_mkeys {tg l : Expr} {β : Type} {T : Option γ} {k : β → Option γ} {Ex : α → Pd} {xs : β → List (κ × α)} {Δ' : β → Δs} (he : PE X l (tE W F Γ Δ T k (fun b => pM Ex (xs b)) Δ')) : PI X tg l (tI W F Γ Δ T k (Ky.kp (κ := κ)) (fun b => (xs b).map Prod.fst) Δ') :=
  (pi_keys he).wk fun σ H R ⟨ok, g, e, q⟩ => ⟨ok, g, e, fun b v H' kb f ok' ⟨a, o, kvs, ev, h, z, p⟩ => ⟨a, o, ev, .inl ⟨kvs, h, q b _ H' kb f ok' (by rw [List.length_map]; exact z) fun H2 f2 i => by
    have h2 : H2 a = some (.frz o (.dK kvs)) := f2 _ _ trivial h
    rw [List.length_map]
    refine ⟨fun hi => ⟨h2, by rw [← paired_len p]; exact hi⟩, fun hi => ⟨h2, by rw [← paired_len p]; exact hi⟩, fun x v H3 hx hy => ?_⟩
    obtain ⟨e3, ky, vv, ek, ev⟩ := hy
    rw [List.getElem?_map] at hx
    cases hr : (xs b)[i]? with
    | none => rw [hr] at hx; cases hx
    | some m =>
      rw [hr] at hx
      have hx : m.1 = x := by simpa using hx
      obtain ⟨u, hu, pu, _⟩ := paired_at p hr
      rw [ek] at hu
      cases hu
      subst e3
      refine ⟨Gr.refl _, ?_⟩
      have pu : ky = Ky.ky m.1 := pu
      rw [ev, pu, hx]
      exact Ky.of _ _⟩⟩⟩
theorem tyM {E : α → Pd} {xs : List (κ × α)} : TyP Δ (pM E xs) "dict" := fun _ _ _ _ _ ⟨_, _, _, e, h, _⟩ => by rw [e]; exact .fDict h
section
variable {N : Fn γ} {rest : List Stmt}
theorem s_dput {o i e : Expr} {pos pos' : Pos} {β0 β1 β2 : Type} {T : Option γ} {k0 : β0 → Option γ} {k1 : β0 → β1 → Option γ} {k : (β0 × β1) × β2 → Option γ} {Δ0 : β0 → Δs} {Δ1 : β0 → β1 → Δs} {Δ2 : β0 → β1 → β2 → Δs} {Ee : α → Pd} {y : β0 → α} {n : β0 → β1 → β2 → κ} {xs : β0 → β1 → β2 → List (κ × α)} {v : V} {prm : Option Nat} (j : Nat) (hu : X.A.units + 64 < cLine)
    (he : PE X e (tE true F Γ Δ T k0 (fun b => Ee (y b)) Δ0)) (ho : ∀ b0, PE X o (tE true F Γ (Δ0 b0) (k0 b0) (k1 b0) (fun _ => pV v) (Δ1 b0)))
    (hi : ∀ b0 b1, PE X i (tE true F Γ (Δ1 b0 b1) (k1 b0 b1) (fun b2 => grd ((xs b0 b1 b2).length < sizeLine) (k ((b0, b1), b2))) (fun b2 => Ky.kp (n b0 b1 b2)) (Δ2 b0 b1)))
    (hj : ∀ b0 b1 b2, (Δ2 b0 b1 b2)[j]? = some ⟨v, oM Ee (xs b0 b1 b2), prm⟩)
    (hr : ∀ b : (β0 × β1) × β2, PSs X rest (tS F Γ ((Δ2 b.1.1 b.1.2 b.2).set j ⟨v, oM Ee (dput (xs b.1.1 b.1.2 b.2) (n b.1.1 b.1.2 b.2) (y b.1.1)), prm⟩) N (k b)))
    (hs : swapsWith e (some (.Subscript o i pos')) pos.line X.env = pure false := by rfl) :
    PSs X (.Assign [.Subscript o i pos'] e pos :: rest) (tS F Γ Δ N T) :=
  (pss_cons (ps_dput (by omega) (pe_ex ho) (pe_ex fun b0 => pe_ex fun b1 => hi b0 b1) he hs) (pss_ex hr)).wk fun D σ H ⟨ok, g, e, f⟩ => ⟨ok, g, e, fun b0 u H0 kb0 f0 ok0 hu => ⟨b0, ok0, g, kb0, fun b1 w H1 kb1 f1 ok1 hw => ⟨b0, b1, ok1, g, kb1, fun b2 z H2 kb2 f2 ok2 hz => by
    obtain ⟨c, km⟩ := grd_some kb2
    have hw : w = v := hw
    subst hw
    have hz := Ky.is hz
    obtain ⟨G, ⟨p, vs, eG, ev, hp, zz, pr⟩, _, turn⟩ := ok2.cell (hj b0 b1 b2)
    have hu2 : (Ee (y b0)).pr H2 u := (Ee (y b0)).mono (f1.fz.trans f2.fz) hu
    have fzm : Fzs H2 (upd H2 p (.dK (putK vs (Ky.ky (n b0 b1 b2)) u))) := Fzs.mut hp fun z => z
    have eG : G = [p] := eG
    refine ⟨p, _, ev, .inl ⟨vs, Ky.ky (n b0 b1 b2), hp, hz, by rw [← paired_len pr]; exact c, rfl⟩, ((b0, b1), b2), ?_⟩
    obtain ⟨ok3, f3⟩ := turn (upd H2 p (.dK (putK vs (Ky.ky (n b0 b1 b2)) u))) (oM Ee (dput (xs b0 b1 b2) (n b0 b1 b2) (y b0))) (fun a o na e => by
      rw [upd_ne fun q => na (by show a ∈ G; rw [eG, q]; exact List.mem_singleton.mpr rfl)]
      exact e) ⟨p, _, eG, ev, upd_same, Nat.le_trans (dput_len _ _ _) c, prM_put ((Ee _).mono fzm hu2) (prM_mono fzm pr)⟩
    exact ⟨ok3, g, km, N.mono f (((f0.fz.trans f1.fz).trans f2.fz).trans f3.fz)⟩⟩⟩⟩
end
end
end L3
end
section
set_option maxHeartbeats 4000000
namespace L3
open PySem PySem.Spec PyProof.Rows L2
section
variable {κ α : Type} [DecidableEq κ] [DecidableEq α]
def deq (c d : List (κ × α)) : Bool := (c.length == d.length) && c.all fun p => decide (dget d p.1 = some p.2)
end
section
variable {X : Cx} {W : Bool} {F : Fm} {Γ : Gm} {Δ : Δs} {γ : Type} {κ α : Type} [DecidableEq κ] [Ky κ] [DecidableEq α]
theorem deq_hits {E : α → Pd} (d : Dt E) (hd : d.dep < 60) {A : Around} {pins : List (Addr × Obj)} {σ : SS} {H : Hp} {s : Shared} (I : Inv X pins σ H s) (hu : A.in1.units + 64 < cLine) {ys : List (κ × α)} {ls : List (Key × V)} {vb : List (Key × Value)} (py : Paired (PrM E H) ys ls) (rb : KV ls vb) :
    ∀ {xs : List (κ × α)} {ks : List (Key × V)} {va : List (Key × Value)}, Paired (PrM E H) xs ks → KV ks va → PySem.W.KeqHits A.in1 s vb va (xs.all fun p => decide (dget ys p.1 = some p.2))
  | [], [], [], .nil, .nil => .nil
  | x :: xs, k :: ks, (key, v) :: va, .cons r t, .cons q u => by
    have ih := deq_hits d hd I hu py rb t u
    have ek : k.1 = key := q.1
    rw [List.all_cons]
    have rr : RelO (valV ls k.1) (valueAt vb k.1) := rb.val k.1
    rw [r.1] at rr
    rcases prM_get x.1 py with ⟨e0, e1⟩ | ⟨y, w, e0, e1, hw⟩
    · rw [e0, decide_eq_false (by simp), Bool.false_and]
      rw [e1] at rr
      refine .miss ?_
      rw [← ek, r.1]
      cases hv : valueAt vb (Ky.ky x.1) with
      | none => rfl
      | some z => rw [hv] at rr; exact rr.elim
    · rw [e1] at rr
      obtain ⟨z, hz, rz⟩ := rr.some_of
      have key_eq : valueAt vb key = some z := by rw [← ek, r.1]; exact hz
      obtain ⟨as, r1⟩ := Dp.reads I (d.toD x.2) k.2 v (d.dp r.2) q.2
      obtain ⟨bs, r2⟩ := Dp.reads I (d.toD y) w z (d.dp hw) rz
      have sh : ∀ a : α, SeqAt.shaped (d.toD a) = true := fun a => by
        show ((d.toD a).canLay0 && decide ((d.toD a).depth ≤ 64)) = true
        rw [d.can, decide_eq_true (by have := d.deep a; omega)]; rfl
      have eq := PySem.W.keq_at (A := A) r1 r2 (sh _) (sh _) hu
      rw [d.eq] at eq
      have e2 : decide (dget ys x.1 = some x.2) = decide (x.2 = y) := by
        rw [e0]
        by_cases h : x.2 = y
        · simp [h]
        · have h2 : ¬ y = x.2 := fun z => h z.symm
          simp [h, h2]
      rw [e2]
      exact .hit key_eq eq ih
def rDeq (d : Bool → Bool) : R2 := fun x y H Q => ∃ (κ α : Type) (_ : DecidableEq κ) (_ : Ky κ) (_ : DecidableEq α) (E : α → Pd) (t : Dt E) (_ : t.dep < 60) (xs ys : List (κ × α)), RM E xs H x ∧ RM E ys H y ∧ Q (.bl (d (deq xs ys))) H
theorem op_deq (hu : X.A.units + 66 < cLine) : OpR X (compareOp .Eq) (rDeq id) := by
  intro pins s σ H x y v u Q I rx ry h
  obtain ⟨κ, α, i1, i2, i3, E, t, ht, xs, ys, ⟨a, ks, rfl, ra, _, pa⟩, ⟨b, ls, rfl, rb, _, pb⟩, q⟩ := h
  obtain rfl : v = Value.ref a := rx
  obtain rfl : u = Value.ref b := ry
  obtain ⟨_, ya, va, rva, da⟩ := dk_rd I.hok ra
  obtain ⟨_, yb, vb, rvb, db⟩ := dk_rd I.hok rb
  refine PySem.W.keq_eq (knd := mixKind X.prog X.w) ya yb da db (by omega) (fun _ => deq_hits t ht I (by show X.A.units + 1 + 64 < cLine; omega) pb rvb pa rva) ⟨.bl (deq xs ys), H, I, ?_, q⟩
  show Value.bool _ = Value.bool _
  unfold deq
  rw [← rva.length, ← rvb.length, ← paired_len pa, ← paired_len pb]
theorem op_dne (hu : X.A.units + 66 < cLine) : OpR X (compareOp .NotEq) (rDeq (fun x => !x)) := by
  intro pins s σ H x y v u Q I rx ry h
  obtain ⟨κ, α, i1, i2, i3, E, t, ht, xs, ys, ⟨a, ks, rfl, ra, _, pa⟩, ⟨b, ls, rfl, rb, _, pb⟩, q⟩ := h
  obtain rfl : v = Value.ref a := rx
  obtain rfl : u = Value.ref b := ry
  obtain ⟨_, ya, va, rva, da⟩ := dk_rd I.hok ra
  obtain ⟨_, yb, vb, rvb, db⟩ := dk_rd I.hok rb
  refine PySem.W.keq_ne (knd := mixKind X.prog X.w) ya yb da db (by omega) (fun _ => deq_hits t ht I (by show X.A.units + 1 + 64 < cLine; omega) pb rvb pa rva) ⟨.bl (!deq xs ys), H, I, ?_, q⟩
  show Value.bool _ = Value.bool _
  unfold deq
  rw [← rva.length, ← rvb.length, ← paired_len pa, ← paired_len pb]
theorem room66 {k : Nat} {A : Around} (r : Room k A) : A.units + 66 < cLine := by have := r.un; omega
section
variable {a b : Expr} {pos : Pos} {β1 β2 : Type} {T : Option γ} {k1 : β1 → Option γ} {k : β1 × β2 → Option γ} {Δ1 : β1 → Δs} {Δ2 : β1 → β2 → Δs} {Ee : α → Pd} {E1 : β1 → Pd} {E2 : β1 → β2 → Pd} {xs ys : β1 → β2 → List (κ × α)}
theorem x_eqM (hu : X.A.units + 66 < cLine) (d : Dt Ee) (ha : PE X a (tE W F Γ Δ T k1 E1 Δ1)) (hb : ∀ b1, PE X b (tE W F Γ (Δ1 b1) (k1 b1) (fun b2 => k (b1, b2)) (E2 b1) (Δ2 b1))) (r1 : ∀ b1 b2, RdM (Δ2 b1 b2) (E1 b1) Ee (xs b1 b2)) (r2 : ∀ b1 b2, RdM (Δ2 b1 b2) (E2 b1 b2) Ee (ys b1 b2)) (hd : d.dep < 60 := by decide) :
    PE X (.Compare a [.Eq] [b] pos) (tE W F Γ Δ T k (fun b => pBl (deq (xs b.1 b.2) (ys b.1 b.2))) fun b => Δ2 b.1 b.2) := x2t (b_cmp (op_deq hu) (nomark _)) ha hb fun b1 b2 σ v w H Q ok hv hw q => ⟨κ, α, _, _, _, Ee, d, hd, _, _, r1 b1 b2 F H v ok.hk hv, r2 b1 b2 F H w ok.hk hw, q _ rfl⟩
theorem t_neM (hu : X.A.units + 66 < cLine) (d : Dt Ee) (ha : PE X a (tE W F Γ Δ T k1 E1 Δ1)) (hb : ∀ b1, PE X b (tE W F Γ (Δ1 b1) (k1 b1) (fun b2 => k (b1, b2)) (E2 b1) (Δ2 b1))) (r1 : ∀ b1 b2, RdM (Δ2 b1 b2) (E1 b1) Ee (xs b1 b2)) (r2 : ∀ b1 b2, RdM (Δ2 b1 b2) (E2 b1 b2) Ee (ys b1 b2)) (hd : d.dep < 60 := by decide) :
    PT X (.Compare a [.NotEq] [b] pos) (tTs W F Γ Δ T k (fun b => !deq (xs b.1 b.2) (ys b.1 b.2)) fun b => Δ2 b.1 b.2) := t2t (bt_cmp (op_dne hu) (nomark _)) ha hb fun b1 b2 σ v w H Q ok hv hw q => ⟨κ, α, _, _, _, Ee, d, hd, _, _, r1 b1 b2 F H v ok.hk hv, r2 b1 b2 F H w ok.hk hw, q _ rfl⟩
end
end
section
variable {X : Cx} {W : Bool} {F : Fm} {Γ : Gm} {Δ : Δs} {γ : Type}
section
variable {a b : Expr} {p pos : Pos} {β1 β2 : Type} {T : Option γ} {k1 : β1 → Option γ} {k : β1 × β2 → Option γ} {Δ1 : β1 → Δs} {Δ2 : β1 → β2 → Δs} {i : β1 → Int} {j : β1 → β2 → Int}
end
section
variable {a b : Expr} {p pos : Pos} {β β1 β2 : Type} {T : Option γ} {k1 : β1 → Option γ} {Δ1 : β1 → Δs} {Δ0 : β → Δs} {Δ2 : β1 → β2 → Δs}
theorem x_ixC {k : (β1 × β2) × Nat → Option γ} {z : β1 → Str} {j : β1 → β2 → Int} (ha : PE X a (tE W F Γ Δ T k1 (fun b => pStr (z b)) Δ1)) (hb : ∀ b1, PE X b (tE W F Γ (Δ1 b1) (k1 b1) (fun b2 => grd ((z b1).length ≤ sizeLine) ((atI (z b1).cps.toList (j b1 b2)).bind fun x => k ((b1, b2), x))) (fun b => pInt (j b1 b)) (Δ2 b1))) (hs : PlainIx b := by exact fun _ _ => rfl) :
    PE X (.Subscript a b pos) (tE W F Γ Δ T k (fun b => pStr ⟨#[b.2]⟩) fun b => Δ2 b.1.1 b.1.2) :=
  x2_core (b_ix ix_str hs) ha hb fun σ H Q ⟨ok, g, e, q⟩ => ⟨ok, g, e, fun b1 b2 v w H2 kb f ok2 hv hw => by
    obtain ⟨c, kb⟩ := grd_some kb
    obtain ⟨x, ex, kx⟩ := bind_some kb
    exact ⟨z b1, j b1 b2, x, hv, hw, c, ex, q ((b1, b2), x) _ H2 kx f ok2 rfl⟩⟩
end
def idx? {α : Type} [DecidableEq α] (x : α) : List α → Option Nat
  | [] => none
  | y :: ys => if y = x then some 0 else (idx? x ys).map (· + 1)
theorem idx_spec {α : Type} [DecidableEq α] {x : α} : ∀ {xs : List α} {j : Nat}, idx? x xs = some j → xs[j]? = some x ∧ ∀ m y, m < j → xs[m]? = some y → y ≠ x
  | [], _, h => by cases h
  | y :: ys, j, h => by
    unfold idx? at h
    by_cases e : y = x
    · rw [if_pos e] at h; cases h
      exact ⟨by rw [e]; rfl, fun m _ hm => absurd hm (Nat.not_lt_zero m)⟩
    · rw [if_neg e] at h
      cases hi : idx? x ys with
      | none => rw [hi] at h; cases h
      | some i =>
        rw [hi] at h
        have h : i + 1 = j := Option.some.inj h
        subst h
        obtain ⟨h1, h2⟩ := idx_spec hi
        refine ⟨by simpa using h1, fun m z hm hz => ?_⟩
        cases m with
        | zero => have hz : y = z := by simpa using hz
                  rw [← hz]; exact e
        | succ m => exact h2 m z (by omega) (by simpa using hz)
section
variable {o e : Expr} {apos cpos : Pos} {β1 β2 α : Type} {T : Option γ} {k1 : β1 → Option γ} {Δ1 : β1 → Δs} {Δ2 : β1 → β2 → Δs} {E1 : β1 → Pd} {Ee : α → Pd} {y : β1 → β2 → α}
theorem x_index [DecidableEq α] {k : (β1 × β2) × Nat → Option γ} {xs0 : β1 → List α} {xs : β1 → β2 → List α} (fl : Flat Ee) (ho : PE X o (tE W F Γ Δ T k1 E1 Δ1)) (he : ∀ b1, PE X e (tE W F Γ (Δ1 b1) (k1 b1) (fun b2 => (idx? (y b1 b2) (xs b1 b2)).bind fun n => k ((b1, b2), n)) (fun b2 => Ee (y b1 b2)) (Δ2 b1))) (rd0 : ∀ b1, RdL (Δ1 b1) (E1 b1) Ee (xs0 b1)) (rd : ∀ b1 b2, RdL (Δ2 b1 b2) (E1 b1) Ee (xs b1 b2))
    (hbase : attributeBase o "index" X.env (eval o X.env) = eval o X.env := by rfl) (hline : (apos.endLine == cpos.line) = true := by rfl) (hs : starEach [e] X.env = (false, eval e X.env) :: starEach [] X.env := by rfl)
    (hfew : ((backTo cpos (starEach [e] X.env)).all (fun x => !x.1) && (backToKw cpos (keywordEach [] X.env)).all (fun x => x.1.isSome) && decide ([e].length + ([] : List Keyword).length + (if ([] : List Keyword).isEmpty then 0 else 1) < 30)) = true := by rfl) :
    PE X (.Call (.Attribute o "index" apos) [e] [] cpos) (tE W F Γ Δ T k (fun b => pInt (b.2 : Int)) fun b => Δ2 b.1.1 b.1.2) :=
  (pe_bm PySem.F.plainAttrs_list PySem.F.slot_list_index PySem.F.type_list_index mt_index ho (pa_cons (pe_ex he) pa_nil hs) hbase hfew hline hs).wk fun σ H Q ⟨ok, g, e, q⟩ => ⟨ok, g, e, fun b1 u H1 kb1 f1 ok1 hu => by
    obtain ⟨p0, vs0, ev0, sq0, _, _⟩ := (rd0 b1 F H1 u ok1.hk hu).sq (K := X.K)
    refine ⟨by rw [ev0]; exact .inl ⟨rfl, vs0, sq0⟩, b1, ok1, g, kb1, fun b2 w H2 kb2 f2 ok2 hw => ?_⟩
    obtain ⟨n, en, kn⟩ := bind_some kb2
    obtain ⟨p, vs, ev, sq, _, pr⟩ := (rd b1 b2 F H2 u ok2.hk ((E1 b1).mono f2.fz hu)).sq (K := X.K)
    have e1 := flat_vals fl pr
    subst e1
    have e2 := fl.eq hw
    subst e2
    obtain ⟨i1, i2⟩ := idx_spec en
    refine ⟨p, _, fl.mp (y b1 b2), n, fl.mp (y b1 b2), ev, rfl, sq, fl.fl _, flat_all fl _, by rw [List.getElem?_map, i1]; rfl, by rw [fl.one]; simp, fun m z' hm hz => ?_, q ((b1, b2), n) _ H2 kn (f1.trans f2) ok2 rfl⟩
    rw [List.getElem?_map] at hz
    cases hx : (xs b1 b2)[m]? with
    | none => rw [hx] at hz; cases hz
    | some x =>
      rw [hx] at hz
      have hz : fl.mp x = z' := by simpa using hz
      rw [← hz, fl.one, decide_eq_false (i2 m x hm hx)]⟩
end
theorem feI : FlatE pInt := fun _ _ _ _ h => h
end
end L3
end
section
set_option maxHeartbeats 4000000
namespace L3
open PySem PySem.Spec PyProof.Rows L2
section
variable {X : Cx} {W : Bool} {F : Fm} {Γ : Gm} {Δ : Δs} {γ : Type}
end
end L3
end
section
set_option maxHeartbeats 4000000
namespace L3
open PySem PySem.Spec PyProof.Rows L2
inductive OTr where
  | fz (v : Val)
  | lst (xs : List OTr)
  | tup (xs : List OTr)
  | dct (kvs : List (Key × OTr))
  | ins (c : Str) (fs : List (Str × OTr))
mutual
def er : OTr → Val
  | .fz v => v
  | .lst xs => .lst (ers xs)
  | .tup xs => .tup (ers xs)
  | .dct kvs => .dct (erd kvs)
  | .ins c fs => .ins c (erf fs)
def ers : List OTr → List Val
  | [] => []
  | x :: xs => er x :: ers xs
def erd : List (Key × OTr) → List (Key × Val)
  | [] => []
  | (k, x) :: xs => (k, er x) :: erd xs
def erf : List (Str × OTr) → List (Str × Val)
  | [] => []
  | (k, x) :: xs => (k, er x) :: erf xs
end
theorem ers_len : ∀ xs : List OTr, (ers xs).length = xs.length
  | [] => by unfold ers; rfl
  | x :: xs => by unfold ers; rw [List.length_cons, ers_len xs, List.length_cons]
theorem erd_len : ∀ xs : List (Key × OTr), (erd xs).length = xs.length
  | [] => by unfold erd; rfl
  | (k, x) :: xs => by unfold erd; rw [List.length_cons, erd_len xs, List.length_cons]
mutual
inductive ORep (mg : Mg) (H : Hp) : OTr → V → List Addr → Prop
  | fz {v : Val} {x : V} : VRep mg H v x → ORep mg H (.fz v) x []
  | lst {a : Addr} {vs : List V} {xs : List OTr} {G : List Addr} : H a = some (.lst vs) → xs.length ≤ sizeLine → OReps mg H xs vs G → ORep mg H (.lst xs) (.ref a) (a :: G)
  | tup {a : Addr} {vs : List V} {xs : List OTr} {G : List Addr} : H a = some (.tup vs) → xs.length ≤ sizeLine → OReps mg H xs vs G → ORep mg H (.tup xs) (.ref a) G
  | dct {a : Addr} {ks : List (Key × V)} {kvs : List (Key × OTr)} {G : List Addr} : H a = some (.dK ks) → kvs.length ≤ sizeLine → ORepD mg H kvs ks G → ORep mg H (.dct kvs) (.ref a) (a :: G)
  | ins {a : Addr} {C dx : Addr} {vs : List (Str × V)} {c : Str} {fs : List (Str × OTr)} {G : List Addr} : H a = some (.ins C dx vs) → mg c = some (.ref C) → ORepF mg H fs vs G → ORep mg H (.ins c fs) (.ref a) (a :: G)
inductive OReps (mg : Mg) (H : Hp) : List OTr → List V → List Addr → Prop
  | nil : OReps mg H [] [] []
  | cons {x : OTr} {v : V} {xs : List OTr} {vs : List V} {G1 G2 : List Addr} : ORep mg H x v G1 → OReps mg H xs vs G2 → OReps mg H (x :: xs) (v :: vs) (G1 ++ G2)
inductive ORepD (mg : Mg) (H : Hp) : List (Key × OTr) → List (Key × V) → List Addr → Prop
  | nil : ORepD mg H [] [] []
  | cons {k : Key} {x : OTr} {v : V} {xs : List (Key × OTr)} {vs : List (Key × V)} {G1 G2 : List Addr} : ORep mg H x v G1 → ORepD mg H xs vs G2 → ORepD mg H ((k, x) :: xs) ((k, v) :: vs) (G1 ++ G2)
inductive ORepF (mg : Mg) (H : Hp) : List (Str × OTr) → List (Str × V) → List Addr → Prop
  | nil : ORepF mg H [] [] []
  | cons {k : Str} {x : OTr} {v : V} {xs : List (Str × OTr)} {vs : List (Str × V)} {G1 G2 : List Addr} : ORep mg H x v G1 → ORepF mg H xs vs G2 → ORepF mg H ((k, x) :: xs) ((k, v) :: vs) (G1 ++ G2)
end
theorem Kp.l {G1 G2 : List Addr} {H H' : Hp} (k : Kp (G1 ++ G2) H H') : Kp G1 H H' := fun a ha => k a (List.mem_append_left _ ha)
mutual
theorem ORep.frame {mg : Mg} {H H' : Hp} (f : Fzs H H') : ∀ {x : OTr} {v : V} {G : List Addr}, ORep mg H x v G → Kp G H H' → ORep mg H' x v G
  | _, _, _, .fz h, _ => .fz (h.mono f)
  | _, _, _, .lst h z r, k => .lst (k _ List.mem_cons_self _ h) z (OReps.frame f r k.t)
  | _, _, _, .tup h z r, k => .tup (f _ _ trivial h) z (OReps.frame f r k)
  | _, _, _, .dct h z r, k => .dct (k _ List.mem_cons_self _ h) z (ORepD.frame f r k.t)
  | _, _, _, .ins h m r, k => .ins (k _ List.mem_cons_self _ h) m (ORepF.frame f r k.t)
theorem OReps.frame {mg : Mg} {H H' : Hp} (f : Fzs H H') : ∀ {x : List OTr} {v : List V} {G : List Addr}, OReps mg H x v G → Kp G H H' → OReps mg H' x v G
  | _, _, _, .nil, _ => .nil
  | _, _, _, .cons a b, k => .cons (ORep.frame f a k.l) (OReps.frame f b k.r)
theorem ORepD.frame {mg : Mg} {H H' : Hp} (f : Fzs H H') : ∀ {x : List (Key × OTr)} {v : List (Key × V)} {G : List Addr}, ORepD mg H x v G → Kp G H H' → ORepD mg H' x v G
  | _, _, _, .nil, _ => .nil
  | _, _, _, .cons a b, k => .cons (ORep.frame f a k.l) (ORepD.frame f b k.r)
theorem ORepF.frame {mg : Mg} {H H' : Hp} (f : Fzs H H') : ∀ {x : List (Str × OTr)} {v : List (Str × V)} {G : List Addr}, ORepF mg H x v G → Kp G H H' → ORepF mg H' x v G
  | _, _, _, .nil, _ => .nil
  | _, _, _, .cons a b, k => .cons (ORep.frame f a k.l) (ORepF.frame f b k.r)
end
theorem Muts.app {G1 G2 : List Addr} {H : Hp} (a : Muts G1 H) (b : Muts G2 H) : Muts (G1 ++ G2) H := fun x hx => (List.mem_append.mp hx).elim (a x) (b x)
mutual
theorem ORep.cells {mg : Mg} {H : Hp} : ∀ {x : OTr} {v : V} {G : List Addr}, ORep mg H x v G → Muts G H
  | _, _, _, .fz _ => fun _ h => absurd h List.not_mem_nil
  | _, _, _, .lst h _ r => Muts.cons h trivial (OReps.cells r)
  | _, _, _, .tup _ _ r => OReps.cells r
  | _, _, _, .dct h _ r => Muts.cons h trivial (ORepD.cells r)
  | _, _, _, .ins h _ r => Muts.cons h trivial (ORepF.cells r)
theorem OReps.cells {mg : Mg} {H : Hp} : ∀ {x : List OTr} {v : List V} {G : List Addr}, OReps mg H x v G → Muts G H
  | _, _, _, .nil => fun _ h => absurd h List.not_mem_nil
  | _, _, _, .cons a b => Muts.app (ORep.cells a) (OReps.cells b)
theorem ORepD.cells {mg : Mg} {H : Hp} : ∀ {x : List (Key × OTr)} {v : List (Key × V)} {G : List Addr}, ORepD mg H x v G → Muts G H
  | _, _, _, .nil => fun _ h => absurd h List.not_mem_nil
  | _, _, _, .cons a b => Muts.app (ORep.cells a) (ORepD.cells b)
theorem ORepF.cells {mg : Mg} {H : Hp} : ∀ {x : List (Str × OTr)} {v : List (Str × V)} {G : List Addr}, ORepF mg H x v G → Muts G H
  | _, _, _, .nil => fun _ h => absurd h List.not_mem_nil
  | _, _, _, .cons a b => Muts.app (ORep.cells a) (ORepF.cells b)
end
theorem Lkd.l {G1 G2 : List Addr} {H H' : Hp} (k : Lkd (G1 ++ G2) H H') : Lkd G1 H H' := fun a ha => k a (List.mem_append_left _ ha)
mutual
theorem ORep.lockd {mg : Mg} {H H1 : Hp} (f : Fzs H H1) : ∀ {x : OTr} {v : V} {G : List Addr}, ORep mg H x v G → Lkd G H H1 → VRep mg H1 (er x) v
  | _, _, _, .fz h, _ => by unfold er; exact h.mono f
  | _, _, _, .lst h z r, k => by
    obtain ⟨o, ho⟩ := k _ List.mem_cons_self _ h
    unfold er
    exact .lst ho (by rw [ers_len]; exact z) (OReps.lockd f r k.t)
  | _, _, _, .tup h z r, k => by
    unfold er
    exact .tup (f _ _ trivial h) (by rw [ers_len]; exact z) (OReps.lockd f r k)
  | _, _, _, .dct h z r, k => by
    obtain ⟨o, ho⟩ := k _ List.mem_cons_self _ h
    unfold er
    exact .dct ho (by rw [erd_len]; exact z) (ORepD.lockd f r k.t)
  | _, _, _, .ins h m r, k => by
    obtain ⟨o, ho⟩ := k _ List.mem_cons_self _ h
    unfold er
    exact .ins ho m (ORepF.lockd f r k.t)
theorem OReps.lockd {mg : Mg} {H H1 : Hp} (f : Fzs H H1) : ∀ {x : List OTr} {v : List V} {G : List Addr}, OReps mg H x v G → Lkd G H H1 → VReps mg H1 (ers x) v
  | _, _, _, .nil, _ => by unfold ers; exact .nil
  | _, _, _, .cons a b, k => by unfold ers; exact .cons (ORep.lockd f a k.l) (OReps.lockd f b k.r)
theorem ORepD.lockd {mg : Mg} {H H1 : Hp} (f : Fzs H H1) : ∀ {x : List (Key × OTr)} {v : List (Key × V)} {G : List Addr}, ORepD mg H x v G → Lkd G H H1 → VRepD mg H1 (erd x) v
  | _, _, _, .nil, _ => by unfold erd; exact .nil
  | _, _, _, .cons a b, k => by unfold erd; exact .cons (ORep.lockd f a k.l) (ORepD.lockd f b k.r)
theorem ORepF.lockd {mg : Mg} {H H1 : Hp} (f : Fzs H H1) : ∀ {x : List (Str × OTr)} {v : List (Str × V)} {G : List Addr}, ORepF mg H x v G → Lkd G H H1 → VRepF mg H1 (erf x) v
  | _, _, _, .nil, _ => by unfold erf; exact .nil
  | _, _, _, .cons a b, k => by unfold erf; exact .cons (ORep.lockd f a k.l) (ORepF.lockd f b k.r)
end
end L3
end
section
set_option maxHeartbeats 4000000
namespace L3
open PySem PySem.Spec PyProof.Rows L2
def strOk (x : Str) : Bool := PyData.strOk x
def dgInt : Dg pInt := dtInt.g
def dgStr : Dg pStr := ⟨.str, fun h => by rw [h]; exact .str _, 0, strOk, fun x h => h, fun _ => Nat.le_refl 0, fun x y => by show (x == y) = _; by_cases h : x = y <;> simp [h]⟩
def dgT2 {α β : Type} {E : α → Pd} {G : β → Pd} [DecidableEq α] [DecidableEq β] (d : Dg E) (e : Dg G) : Dg (pT2 E G) := ⟨fun x => .tuple [d.toD x.1, e.toD x.2], fun ⟨a, u, w, ev, h, p, q⟩ => by rw [ev]; exact .tup (.inl (.inl h)) (.cons (d.dp p) (.cons (e.dp q) .nil)), max d.dep e.dep + 1, fun x => d.ok x.1 && e.ok x.2, fun x h => by
  obtain ⟨h1, h2⟩ := Bool.and_eq_true_iff.mp h
  show (PyData.canLay0 (d.toD x.1) && (PyData.canLay0 (e.toD x.2) && true)) = true
  rw [d.can _ h1, e.can _ h2]; rfl, fun x => by
  show PyData.depthAll [d.toD x.1, e.toD x.2] + 1 ≤ _
  have h1 := d.deep x.1
  have h2 := e.deep x.2
  have : PyData.depthAll [d.toD x.1, e.toD x.2] = max (PyData.depth (d.toD x.1)) (max (PyData.depth (e.toD x.2)) 0) := rfl
  rw [this]
  omega, fun x y => by
  show (PyData.eqv (d.toD x.1) (d.toD y.1) && (PyData.eqv (e.toD x.2) (e.toD y.2) && true)) = _
  rw [d.eq, e.eq]
  obtain ⟨x1, x2⟩ := x
  obtain ⟨y1, y2⟩ := y
  by_cases h1 : x1 = y1 <;> by_cases h2 : x2 = y2 <;> simp [h1, h2]⟩
theorem gdp_all {α : Type} {E : α → Pd} [DecidableEq α] (d : Dg E) {K : PySem.W.Frag} {H : Hp} : ∀ {xs : List α} {vs : List V}, Paired (fun x u => (E x).pr H u) xs vs → DpAll K H vs (xs.map d.toD)
  | _, _, .nil => .nil
  | _, _, .cons r t => .cons (d.dp r) (gdp_all d t)
theorem gcan_all {α : Type} {E : α → Pd} [DecidableEq α] (d : Dg E) : ∀ xs : List α, xs.all d.ok = true → PyData.canLayAll0 (xs.map d.toD) = true
  | [], _ => rfl
  | x :: xs, h => by
    rw [List.all_cons] at h
    obtain ⟨h1, h2⟩ := Bool.and_eq_true_iff.mp h
    show (PyData.canLay0 (d.toD x) && PyData.canLayAll0 (xs.map d.toD)) = true
    rw [d.can x h1, gcan_all d xs h2]; rfl
theorem gdeep_all {α : Type} {E : α → Pd} [DecidableEq α] (d : Dg E) : ∀ xs : List α, PyData.depthAll (xs.map d.toD) ≤ d.dep
  | [] => Nat.zero_le _
  | x :: xs => Nat.max_le.mpr ⟨d.deep x, gdeep_all d xs⟩
theorem geqv_all {α : Type} {E : α → Pd} [DecidableEq α] (d : Dg E) : ∀ xs ys : List α, PyData.eqvAll (xs.map d.toD) (ys.map d.toD) = decide (xs = ys)
  | [], [] => rfl
  | [], _ :: _ => rfl
  | _ :: _, [] => rfl
  | x :: xs, y :: ys => by
    show (PyData.eqv (d.toD x) (d.toD y) && PyData.eqvAll (xs.map d.toD) (ys.map d.toD)) = _
    rw [d.eq, geqv_all d xs ys]
    by_cases h : x = y <;> by_cases h2 : xs = ys <;> simp [h, h2]
def dgL {α : Type} {E : α → Pd} [DecidableEq α] (d : Dg E) : Dg (pL E) := ⟨fun xs => .list (xs.map d.toD), fun ⟨a, o, vs, e, h, z, p⟩ => by rw [e]; exact .lst (.inl (.inr ⟨o, h⟩)) (gdp_all d p), d.dep + 1, fun xs => xs.all d.ok, fun xs h => gcan_all d xs h, fun xs => Nat.succ_le_succ (gdeep_all d xs), fun xs ys => geqv_all d xs ys⟩
theorem Dg.sh {α : Type} {E : α → Pd} [DecidableEq α] (d : Dg E) (hd : d.dep < 60) {x : α} (h : d.ok x = true) : SeqAt.shaped (d.toD x) = true := by
  show (PyData.canLay0 (d.toD x) && decide (PyData.depth (d.toD x) ≤ 64)) = true
  rw [d.can x h, decide_eq_true (by have := d.deep x; omega)]; rfl
section
variable {X : Cx} {W : Bool} {F : Fm} {Γ : Gm} {Δ : Δs} {γ : Type} {a b : Expr} {pos : Pos} {β1 β2 α : Type} [DecidableEq α] {T : Option γ} {k1 : β1 → Option γ} {k : β1 × β2 → Option γ} {Δ1 : β1 → Δs} {Δ2 : β1 → β2 → Δs} {Ee : α → Pd} {x : β1 → α} {y : β1 → β2 → α}
def okG (d : Dg Ee) (x y : α) : Bool := d.ok x && d.ok y
theorem x_eqG (d : Dg Ee) (hu : X.A.units + 64 < cLine) (ha : PE X a (tE W F Γ Δ T k1 (fun b => Ee (x b)) Δ1)) (hb : ∀ b1, PE X b (tE W F Γ (Δ1 b1) (k1 b1) (fun b2 => grd (okG d (x b1) (y b1 b2) = true) (k (b1, b2))) (fun b2 => Ee (y b1 b2)) (Δ2 b1))) (hd : d.dep < 60 := by decide) :
    PE X (.Compare a [.Eq] [b] pos) (tE W F Γ Δ T k (fun b => pBl (decide (x b.1 = y b.1 b.2))) fun b => Δ2 b.1 b.2) :=
  x2g (b_cmp (op_eqD hu) (nomark _)) ha hb fun b1 b2 σ v w H Q ok c hv hw q => by
    obtain ⟨c1, c2⟩ := Bool.and_eq_true_iff.mp c
    exact ⟨_, _, d.dp hv, d.dp hw, d.sh hd c1, d.sh hd c2, by rw [d.eq]; exact q _ rfl⟩
end
section
variable {X : Cx} {W : Bool} {F : Fm} {Γ : Gm} {Δ : Δs} {γ : Type}
section
variable {a b : Expr} {pos : Pos} {β1 β2 : Type} {T : Option γ} {k1 : β1 → Option γ} {k : β1 × β2 → Option γ} {Δ1 : β1 → Δs} {Δ2 : β1 → β2 → Δs} {i : β1 → Int} {v0 : V} {xs : β1 → β2 → List Int} {prm : Option Nat}
end
end
end L3
end
section
set_option maxHeartbeats 4000000
namespace L3
open PySem PySem.Spec PyProof.Rows L2
section
variable {X : Cx} {W : Bool} {F : Fm} {Γ : Gm} {Δ : Δs} {γ : Type}
variable {α α2 β β4 β5 δ : Type} {g g2 : TG} {own : List (Str × Nat)} {vs1 : List Nat} {T : Option γ} {k0 : β → Option γ} {k : β × List δ → Option γ} {Ex : α → Pd} {Ex2 : α2 → Pd} {Ee : δ → Pd} {bd : Gm → α → Gm} {bd2 : Gm → α2 → Gm} {xs : β → List α} {C : β → Δs} {f : β → α → Option (List δ)}
    {ys : β → α → β4 → List α2} {h : β → α → β4 → α2 → Option δ} {e : β → α → β4 → α2 → β5 → δ}
theorem x_T {Y : Cx} {β : Type} {Γ : Gm} {Δ : Δs} {γ : Type} {e : Expr} {T T' : Option γ} {k : β → Option γ} {E : β → Pd} {Δ' : β → Δs} (h : PE Y e (tE W F Γ Δ T' k E Δ')) (hT : T = T') : PE Y e (tE W F Γ Δ T k E Δ') := by rw [hT]; exact h
end
end L3
end
section
set_option maxHeartbeats 4000000
namespace L3
open PySem PySem.Spec PyProof.Rows L2
theorem at_split {α : Type} {x : α} : ∀ {l : List α} {m : Nat}, l[m]? = some x → ∃ A B, l = A ++ x :: B ∧ ∀ y, l.set m y = A ++ y :: B
  | [], m, h => by simp at h
  | y :: l, 0, h => by
    simp at h
    subst h
    exact ⟨[], l, rfl, fun _ => rfl⟩
  | y :: l, m + 1, h => by
    obtain ⟨A, B, e, s⟩ := at_split (l := l) (m := m) (by simpa using h)
    exact ⟨y :: A, B, by rw [e]; rfl, fun z => by rw [List.set_cons_succ, s z]; rfl⟩
theorem flat_set {gs : List (List Addr)} {m : Nat} {g g' : List Addr} (hg : gs[m]? = some g) (nd : gs.flatten.Nodup) (nd' : g'.Nodup) (ds : ∀ a ∈ g', a ∈ g ∨ a ∉ gs.flatten) : (gs.set m g').flatten.Nodup ∧ ∀ a ∈ (gs.set m g').flatten, (a ∈ gs.flatten ∧ a ∉ g) ∨ a ∈ g' := by
  obtain ⟨A, B, e, s⟩ := at_split hg
  rw [s g']
  subst e
  simp only [List.flatten_append, List.flatten_cons] at nd ds ⊢
  obtain ⟨n1, n2, n3⟩ := List.nodup_append.mp nd
  obtain ⟨n4, n5, n6⟩ := List.nodup_append.mp n2
  have dA : ∀ a ∈ A.flatten, a ∉ g' := fun a ha h => by
    rcases ds a h with h | h
    · exact n3 a ha a (List.mem_append_left _ h) rfl
    · exact h (List.mem_append_left _ ha)
  have dB : ∀ a ∈ B.flatten, a ∉ g' := fun a ha h => by
    rcases ds a h with h | h
    · exact n6 a h a ha rfl
    · exact h (List.mem_append_right _ (List.mem_append_right _ ha))
  refine ⟨List.nodup_append.mpr ⟨n1, List.nodup_append.mpr ⟨nd', n5, fun a ha b hb z => ?_⟩, fun a ha b hb z => ?_⟩, fun a ha => ?_⟩
  · subst z; exact dB a hb ha
  · subst z
    rcases List.mem_append.mp hb with h | h
    · exact dA a ha h
    · exact n3 a ha a (List.mem_append_right _ h) rfl
  · rcases List.mem_append.mp ha with h | h
    · exact .inl ⟨List.mem_append_left _ h, fun z => n3 a h a (List.mem_append_left _ z) rfl⟩
    · rcases List.mem_append.mp h with h | h
      · exact .inr h
      · exact .inl ⟨List.mem_append_right _ (List.mem_append_right _ h), fun z => n6 a z a h rfl⟩
theorem Own3.turnG {α : Type} {D : α → Od} {H H' : Hp} {y : α} {v : V} {g g' : List Addr} (f : Fzs H H') (new : (D y).pr g' H' v) : ∀ {xs : List α} {vs : List V} {gs : List (List Addr)} {m : Nat}, Own3 D H xs vs gs → gs.flatten.Nodup → (∀ a ∈ gs.flatten, a ∉ g → ∀ o, H a = some o → H' a = some o) → m < xs.length → gs[m]? = some g → Own3 D H' (xs.set m y) (vs.set m v) (gs.set m g')
  | _, _, _, _, .nil, _, _, e, _ => by simp at e
  | _, _, _, 0, .cons r t, nd, kp, e1, e2 => by
    simp at e2
    subst e2
    rw [List.flatten_cons] at nd kp
    exact .cons new (t.frame f fun a ha o e => kp a (List.mem_append_right _ ha) (fun hg => (List.nodup_append.mp nd).2.2 a hg a ha rfl) o e)
  | _, _, g0 :: gs, m + 1, .cons r t, nd, kp, e1, e2 => by
    rw [List.flatten_cons] at nd kp
    have e2' : gs[m]? = some g := by simpa using e2
    refine .cons ((D _).frame r (fun a ha o e => kp a (List.mem_append_left _ ha) (fun hg => ?_) o e) f) (Own3.turnG f new t (List.nodup_append.mp nd).2.1 (fun a ha => kp a (List.mem_append_right _ ha)) (by simpa using e1) e2')
    exact (List.nodup_append.mp nd).2.2 a ha a (List.mem_flatten.mpr ⟨g, List.mem_of_getElem? e2', hg⟩) rfl
section
variable {κ α : Type} [DecidableEq κ]
theorem dput_set {xs : List (κ × α)} {k : κ} {x y : α} {m : Nat} (nd : (xs.map Prod.fst).Nodup) (h : xs[m]? = some (k, x)) : dput xs k y = xs.set m (k, y) := by
  have hany : (xs.any fun p => decide (p.1 = k)) = true := List.any_eq_true.mpr ⟨(k, x), List.mem_of_getElem? h, by simp⟩
  unfold dput
  rw [if_pos hany]
  clear hany
  induction xs generalizing m with
  | nil => simp at h
  | cons p xs ih =>
    rw [List.map_cons, List.nodup_cons] at nd
    cases m with
    | zero =>
      simp at h
      subst h
      rw [List.map_cons, if_pos rfl, List.set_cons_zero]
      congr 1
      refine (List.map_congr_left fun q hq => ?_).trans (List.map_id _)
      rw [if_neg]
      · rfl
      · intro e
        exact nd.1 (List.mem_map.mpr ⟨q, hq, e⟩)
    | succ m =>
      have h' : xs[m]? = some (k, x) := by simpa using h
      rw [List.map_cons, List.set_cons_succ, ih nd.2 h', if_neg]
      intro e
      exact nd.1 (List.mem_map.mpr ⟨_, List.mem_of_getElem? h', e.symm⟩)
theorem dget_at {xs : List (κ × α)} {k : κ} {x : α} (h : dget xs k = some x) : ∃ m : Nat, xs[m]? = some (k, x) := by
  unfold dget at h
  cases e : xs.find? fun p => decide (p.1 = k) with
  | none => rw [e] at h; cases h
  | some p =>
    rw [e] at h
    have h : p.2 = x := Option.some.inj h
    have e1 : p.1 = k := by simpa using List.find?_some e
    obtain ⟨m, hm⟩ := List.getElem?_of_mem (List.mem_of_find?_eq_some e)
    exact ⟨m, by rw [hm, ← h, ← e1]⟩
end
section
variable {κ α : Type} [DecidableEq κ] [Ky κ]
theorem prM_of {E : α → Pd} {H : Hp} : ∀ {xs : List (κ × α)} {us : List (Key × V)}, us.map (·.1) = xs.map (fun x => Ky.ky x.1) → Paired (fun x u => (E x.2).pr H u) xs (us.map (·.2)) → Paired (PrM E H) xs us
  | [], [], _, _ => .nil
  | [], _ :: _, e, _ => by cases e
  | _ :: _, [], e, _ => by cases e
  | x :: xs, u :: us, e, .cons r t => by
    rw [List.map_cons, List.map_cons] at e
    injection e with e1 e2
    exact .cons ⟨e1, r⟩ (prM_of e2 t)
def oMO (D : α → Od) (xs : List (κ × α)) : Od where
  pr G H v := ∃ p kvs gs, G = p :: gs.flatten ∧ v = .ref p ∧ H p = some (.dK kvs) ∧ xs.length ≤ sizeLine ∧ (xs.map Prod.fst).Nodup ∧ kvs.map (·.1) = xs.map (fun x => Ky.ky x.1) ∧ Own3 (fun x : κ × α => D x.2) H xs (kvs.map (·.2)) gs
  pd := pM (fun x => (D x).pd) xs
  frame := fun {G H H' v} h k f => by
    obtain ⟨p, vs, gs, eg, ev, h, z, nd, ks, q⟩ := h
    exact ⟨p, vs, gs, eg, ev, k p (by rw [eg]; exact List.mem_cons_self) _ h, z, nd, ks, q.frame f fun a ha => k a (by rw [eg]; exact List.mem_cons_of_mem _ ha)⟩
  cells := fun ⟨p, vs, gs, eg, ev, h, z, nd, ks, q⟩ a ha => by
    rw [eg] at ha
    rcases List.mem_cons.mp ha with e | ha
    · rw [e]; exact ⟨_, h, trivial⟩
    · exact q.cells a ha
  lockd := fun {G H H1 v} ⟨p, vs, gs, eg, ev, h, z, nd, ks, q⟩ h1 h2 => by
    obtain ⟨o, ho⟩ := h2 p (by rw [eg]; exact List.mem_cons_self) _ h
    have hm : ∀ a ∈ G, ∃ o, H a = some o ∧ Mut (some o) := fun a ha => by
      rw [eg] at ha
      rcases List.mem_cons.mp ha with e | ha
      · rw [e]; exact ⟨_, h, trivial⟩
      · exact q.cells a ha
    exact ⟨p, o, vs, ev, ho, z, prM_of ks (q.lockd (D := fun x : κ × α => D x.2) h1 h2 hm fun a ha => by rw [eg]; exact List.mem_cons_of_mem _ ha)⟩
theorem valV_at {us : List (Key × V)} {k : Key} {v : V} {m : Nat} (nd : (us.map (·.1)).Nodup) (h : us[m]? = some (k, v)) : valV us k = some v := by
  induction us generalizing m with
  | nil => simp at h
  | cons p us ih =>
    rw [List.map_cons, List.nodup_cons] at nd
    cases m with
    | zero =>
      simp at h
      subst h
      exact valV_pos rfl
    | succ m =>
      have h' : us[m]? = some (k, v) := by simpa using h
      rw [valV_neg (fun e => nd.1 (List.mem_map.mpr ⟨_, List.mem_of_getElem? h', e.symm⟩))]
      exact ih nd.2 h'
end
theorem nodup_mapI {β δ : Type} {f : β → δ} (hf : ∀ a b, f a = f b → a = b) {l : List β} (nd : l.Nodup) : (l.map f).Nodup := List.Pairwise.map f (fun a b h e => h (hf a b e)) nd
theorem set_self' {β : Type} {x : β} : ∀ {l : List β} {m : Nat}, l[m]? = some x → l.set m x = l
  | [], _, h => by simp at h
  | y :: l, 0, h => by simp at h; subst h; rfl
  | y :: l, m + 1, h => by rw [List.set_cons_succ, set_self' (by simpa using h)]
def Foc {α : Type} (d : Od) (v : V) (D : α → Od) (x : α) (back : α → Od) (u : V) (H : Hp) : Prop :=
  ∀ H1 G, Gr H H1 → d.pr G H1 v → G.Nodup → ∃ G2, (D x).pr G2 H1 u ∧ (∀ a ∈ G2, a ∈ G) ∧ G2.Nodup ∧
    ∀ H' y G2', (∀ a ∈ G, a ∉ G2 → ∀ o, H1 a = some o → H' a = some o) → Fzs H1 H' → G2'.Nodup → (∀ a ∈ G2', a ∈ G2 ∨ a ∉ G) → (D y).pr G2' H' u →
      ∃ G', (back y).pr G' H' v ∧ G'.Nodup ∧ ∀ a ∈ G', (a ∈ G ∧ a ∉ G2) ∨ a ∈ G2'
theorem Foc.gr {α : Type} {d : Od} {v : V} {D : α → Od} {x : α} {back : α → Od} {u : V} {H H2 : Hp} (f : Foc d v D x back u H) (g : Gr H H2) : Foc d v D x back u H2 := fun H1 G g1 => f H1 G (g.trans g1)
theorem Foc.id {α : Type} {v : V} {D : α → Od} {x : α} {H : Hp} : Foc (D x) v D x D v H := fun H1 G _ h nd => ⟨G, h, fun _ h => h, nd, fun H' y G2' _ _ nd' _ h' => ⟨G2', h', nd', fun a ha => .inr ha⟩⟩
section
variable {X : Cx} {W : Bool} {F : Fm} {Γ : Gm} {Δ : Δs} {γ : Type}
def tFo {α β : Type} (F : Fm) (Γ : Gm) (Δ : Δs) (T : Option γ) (k : β → Option γ) (v : V) (d : Od) (D : α → Od) (x : β → α) (back : β → α → Od) : TE := fun σ H Q =>
  Ok F Γ Δ σ H ∧ ∃ g, T = some g ∧ ∀ b u H', k b = some g → Gr H H' → Ok F Γ Δ σ H' → Foc d v D (x b) (back b) u H' → Q u H'
theorem f_var {α : Type} {e : Expr} {v : V} {D : α → Od} {x : α} {T : Option γ} {k : Unit → Option γ} (h : PE X e (tE false F Γ Δ T k (fun _ => pV v) fun _ => Δ)) : PE X e (tFo F Γ Δ T k v (D x) D (fun _ => x) fun _ => D) :=
  h.wk fun σ H Q ⟨ok, g, e, q⟩ => ⟨ok, g, e, fun b u H' kb st ok' hu => by
    have hu : u = v := hu
    subst hu
    exact q b u H' kb st.gr ok' Foc.id⟩
theorem Foc.key {κ α : Type} [DecidableEq κ] [Ky κ] {d : Od} {v : V} {D : α → Od} {xs : List (κ × α)} {back : List (κ × α) → Od} {u : V} {H : Hp} {n : κ} {x : α} {p : Addr} {kvs : List (Key × V)} {w : V} (f : Foc d v (oMO D) xs back u H) (hu : u = .ref p) (hp : H p = some (.dK kvs)) (hx : dget xs n = some x) (hw : valV kvs (Ky.ky n) = some w) : Foc d v D x (fun y => back (dput xs n y)) w H := fun H1 G g1 hd nd => by
  obtain ⟨G2, ⟨p', kvs', gs, eg, eu, hp', z, ndk, ks, o3⟩, sb, nd2, tr⟩ := f H1 G g1 hd nd
  have eg : G2 = p' :: gs.flatten := eg
  have eu : u = .ref p' := eu
  rw [hu] at eu
  cases eu
  rw [g1 _ _ hp] at hp'
  cases hp'
  subst eg
  obtain ⟨m, hm⟩ := dget_at hx
  obtain ⟨w', g, hvw, hg, pw⟩ := o3.at hm
  have pw : (D x).pr g H1 w' := pw
  have ndkv : (kvs.map (·.1)).Nodup := by
    rw [ks]
    have e : xs.map (fun x => Ky.ky x.1) = (xs.map Prod.fst).map Ky.ky := by rw [List.map_map]; rfl
    rw [e]
    exact nodup_mapI (fun a b e => Ky.inj e) ndk
  have hkv : kvs[m]? = some (Ky.ky n, w') := by
    have h1 : (kvs.map (·.1))[m]? = some (Ky.ky n) := by rw [ks, List.getElem?_map, hm]; rfl
    rw [List.getElem?_map] at h1 hvw
    cases hk : kvs[m]? with
    | none => rw [hk] at h1; cases h1
    | some q =>
      rw [hk] at h1 hvw
      have h1 : q.1 = Ky.ky n := Option.some.inj h1
      have h2 : q.2 = w' := Option.some.inj hvw
      rw [← h1, ← h2]
  have ew : w' = w := by
    have := valV_at ndkv hkv
    rw [hw] at this
    exact (Option.some.inj this).symm
  subst ew
  obtain ⟨pG, ndG⟩ := List.nodup_cons.mp nd2
  have sg : ∀ a ∈ g, a ∈ gs.flatten := fun a ha => List.mem_flatten.mpr ⟨g, List.mem_of_getElem? hg, ha⟩
  have ndg : g.Nodup := by
    obtain ⟨A, B, e, _⟩ := at_split hg
    rw [e, List.flatten_append, List.flatten_cons] at ndG
    exact (List.nodup_append.mp (List.nodup_append.mp ndG).2.1).1
  refine ⟨g, pw, fun a ha => sb a (List.mem_cons_of_mem _ (sg a ha)), ndg, fun H' y G3 kp fz nd3 ds h3 => ?_⟩
  have hml : m < xs.length := (List.getElem?_eq_some_iff.mp hm).1
  have nin : ∀ a ∈ G3, a ∈ g ∨ a ∉ gs.flatten := fun a ha => (ds a ha).imp (fun h => h) fun h z => h (sb a (List.mem_cons_of_mem _ z))
  obtain ⟨fs1, fs2⟩ := flat_set hg ndG nd3 nin
  have pg : p ∉ g := fun z => pG (sg p z)
  have pn : p ∉ G3 := fun z => (ds p z).elim pg fun h => h (sb p List.mem_cons_self)
  have vset : (kvs.map (·.2)).set m w' = kvs.map (·.2) := set_self' hvw
  obtain ⟨G', hb, nb, mb⟩ := tr H' (dput xs n y) (p :: (gs.set m G3).flatten) (fun a ha na o e => kp a ha (fun z => na (List.mem_cons_of_mem _ (sg a z))) o e) fz (List.nodup_cons.mpr ⟨fun z => (fs2 p z).elim (fun h => pG h.1) pn, fs1⟩) (fun a ha => by
      rcases List.mem_cons.mp ha with e | ha
      · exact .inl (by rw [e]; exact List.mem_cons_self)
      · rcases fs2 a ha with h | h
        · exact .inl (List.mem_cons_of_mem _ h.1)
        · exact (ds a h).imp (fun z => List.mem_cons_of_mem _ (sg a z)) fun h => h) ⟨p, kvs, gs.set m G3, rfl, hu, kp p (sb p List.mem_cons_self) pg _ (g1 _ _ hp), by rw [dput_set ndk hm, List.length_set]; exact z, by
        rw [dput_set ndk hm, List.map_set, set_self' (by rw [List.getElem?_map, hm]; rfl)]; exact ndk, by
        rw [dput_set ndk hm, List.map_set, set_self' (by rw [List.getElem?_map, hm]; rfl)]; exact ks, by
        rw [dput_set ndk hm, ← vset]
        exact o3.turnG (y := (n, y)) fz h3 ndG (fun a ha na o e => kp a (sb a (List.mem_cons_of_mem _ ha)) na o e) hml hg⟩
  refine ⟨G', hb, nb, fun a ha => ?_⟩
  rcases mb a ha with ⟨h1, h2⟩ | h
  · exact .inl ⟨h1, fun z => h2 (List.mem_cons_of_mem _ (sg a z))⟩
  · rcases List.mem_cons.mp h with e | h
    · exact .inl ⟨by rw [e]; exact sb p List.mem_cons_self, by rw [e]; exact pg⟩
    · rcases fs2 a h with ⟨h1, h2⟩ | h
      · exact .inl ⟨sb a (List.mem_cons_of_mem _ h1), h2⟩
      · exact .inr h
theorem Foc.ix {α : Type} {d : Od} {v : V} {D : α → Od} {xs : List α} {back : List α → Od} {u : V} {H : Hp} {m : Nat} {x : α} {p : Addr} {vs : List V} {w : V} (f : Foc d v (oLO D) xs back u H) (hu : u = .ref p) (hp : H p = some (.lst vs)) (hm : xs[m]? = some x) (hw : vs[m]? = some w) : Foc d v D x (fun y => back (xs.set m y)) w H := fun H1 G g1 hd nd => by
  obtain ⟨G2, ⟨p', vs', gs, eg, eu, hp', z, o3⟩, sb, nd2, tr⟩ := f H1 G g1 hd nd
  have eg : G2 = p' :: gs.flatten := eg
  have eu : u = .ref p' := eu
  rw [hu] at eu
  cases eu
  rw [g1 _ _ hp] at hp'
  cases hp'
  subst eg
  obtain ⟨w', g, hvw, hg, pw⟩ := o3.at hm
  rw [hw] at hvw
  cases hvw
  obtain ⟨pG, ndG⟩ := List.nodup_cons.mp nd2
  have sg : ∀ a ∈ g, a ∈ gs.flatten := fun a ha => List.mem_flatten.mpr ⟨g, List.mem_of_getElem? hg, ha⟩
  have ndg : g.Nodup := by
    obtain ⟨A, B, e, _⟩ := at_split hg
    rw [e, List.flatten_append, List.flatten_cons] at ndG
    exact (List.nodup_append.mp (List.nodup_append.mp ndG).2.1).1
  refine ⟨g, pw, fun a ha => sb a (List.mem_cons_of_mem _ (sg a ha)), ndg, fun H' y G3 kp fz nd3 ds h3 => ?_⟩
  have hml : m < xs.length := (List.getElem?_eq_some_iff.mp hm).1
  have nin : ∀ a ∈ G3, a ∈ g ∨ a ∉ gs.flatten := fun a ha => (ds a ha).imp (fun h => h) fun h z => h (sb a (List.mem_cons_of_mem _ z))
  obtain ⟨fs1, fs2⟩ := flat_set hg ndG nd3 nin
  have pg : p ∉ g := fun z => pG (sg p z)
  have pn : p ∉ G3 := fun z => (ds p z).elim pg fun h => h (sb p List.mem_cons_self)
  have vset : vs.set m w = vs := set_self' hw
  obtain ⟨G', hb, nb, mb⟩ := tr H' (xs.set m y) (p :: (gs.set m G3).flatten) (fun a ha na o e => kp a ha (fun z => na (List.mem_cons_of_mem _ (sg a z))) o e) fz (List.nodup_cons.mpr ⟨fun z => (fs2 p z).elim (fun h => pG h.1) pn, fs1⟩) (fun a ha => by
      rcases List.mem_cons.mp ha with e | ha
      · exact .inl (by rw [e]; exact List.mem_cons_self)
      · rcases fs2 a ha with h | h
        · exact .inl (List.mem_cons_of_mem _ h.1)
        · exact (ds a h).imp (fun z => List.mem_cons_of_mem _ (sg a z)) fun h => h) ⟨p, vs, gs.set m G3, rfl, hu, kp p (sb p List.mem_cons_self) pg _ (g1 _ _ hp), by rw [List.length_set]; exact z, by
        rw [← vset]
        exact o3.turnG (y := y) fz h3 ndG (fun a ha na o e => kp a (sb a (List.mem_cons_of_mem _ ha)) na o e) hml hg⟩
  refine ⟨G', hb, nb, fun a ha => ?_⟩
  rcases mb a ha with ⟨h1, h2⟩ | h
  · exact .inl ⟨h1, fun z => h2 (List.mem_cons_of_mem _ (sg a z))⟩
  · rcases List.mem_cons.mp h with e | h
    · exact .inl ⟨by rw [e]; exact sb p List.mem_cons_self, by rw [e]; exact pg⟩
    · rcases fs2 a h with ⟨h1, h2⟩ | h
      · exact .inl ⟨sb a (List.mem_cons_of_mem _ h1), h2⟩
      · exact .inr h
theorem Ok.foc {σ : SS} {H : Hp} {α : Type} {j : Nat} {d : Od} {v : V} {prm : Option Nat} {D : α → Od} {x : α} {back : α → Od} {u : V} (ok : Ok F Γ Δ σ H) (hj : Δ[j]? = some ⟨v, d, prm⟩) (f : Foc d v D x back u H) : ∃ G2, (D x).pr G2 H u := by
  obtain ⟨G, h, nd, _⟩ := ok.cell hj
  obtain ⟨G2, h2, _⟩ := f H G (Gr.refl H) h nd
  exact ⟨G2, h2⟩
theorem Ok.focT {σ : SS} {H : Hp} {α : Type} {j : Nat} {d : Od} {v : V} {prm : Option Nat} {D : α → Od} {x : α} {back : α → Od} {u : V} (ok : Ok F Γ Δ σ H) (hj : Δ[j]? = some ⟨v, d, prm⟩) (f : Foc d v D x back u H) : ∃ G2, (D x).pr G2 H u ∧ G2.Nodup ∧
    ∀ H' y G2', (∀ a o, a ∉ G2 → H a = some o → H' a = some o) → (∀ a ∈ G2, ∃ o, H' a = some o) → Fzs H H' → G2'.Nodup → (∀ a ∈ G2', a ∈ G2 ∨ H a = none) → (D y).pr G2' H' u → Ok F Γ (Δ.set j ⟨v, back y, prm⟩) σ H' ∧ St true H H' := by
  obtain ⟨G, h, nd, tr⟩ := ok.cellG hj
  obtain ⟨G2, h2, sb, nd2, tb⟩ := f H G (Gr.refl H) h nd
  refine ⟨G2, h2, nd2, fun H' y G2' kp dm fz nd' ds h' => ?_⟩
  obtain ⟨G', hb, nb, mb⟩ := tb H' y G2' (fun a _ na o e => kp a o na e) fz nd' (fun a ha => (ds a ha).imp (fun h => h) fun e z => by
    obtain ⟨o, eo, _⟩ := d.cells h a z
    rw [e] at eo
    cases eo) h'
  exact tr H' (back y) G' (fun a o na e => kp a o (fun z => na (sb a z)) e) (fun a ha => by
    by_cases h3 : a ∈ G2
    · exact dm a h3
    · obtain ⟨o, eo, _⟩ := d.cells h a ha
      exact ⟨o, kp a o h3 eo⟩) nb (fun a ha => by
    rcases mb a ha with h1 | h1
    · exact .inl h1.1
    · exact (ds a h1).imp (fun z => sb a z) fun z => z) hb
theorem OkN.focT {H0 : Hp} {σ : SS} {H : Hp} {α : Type} {j : Nat} {d dn : Od} {v w : V} {prm : Option Nat} {D : α → Od} {x : α} {back : α → Od} {u : V} (ok : OkN W F Γ H0 w dn Δ σ H) (hj : Δ[j]? = some ⟨v, d, prm⟩) (f : Foc d v D x back u H) : ∃ G2 Gn, (D x).pr G2 H u ∧ dn.pr Gn H w ∧ (G2 ++ Gn).Nodup ∧
    ∀ H' y G2', (∀ a o, a ∉ G2 → H a = some o → H' a = some o) → (∀ a ∈ G2, ∃ o, H' a = some o) → Fzs H H' → G2'.Nodup → (∀ a ∈ G2', a ∈ G2 ∨ a ∈ Gn) → (D y).pr G2' H' u → Ok F Γ (Δ.set j ⟨v, back y, prm⟩) σ H' ∧ Fzs H H' ∧ ∀ a o, H a = some o → ∃ u, H' a = some u := by
  obtain ⟨G, Gn, h, hn, nd, tr⟩ := ok.absorb hj
  obtain ⟨nd1, nd2, nd3⟩ := List.nodup_append.mp nd
  obtain ⟨G2, h2, sb, ndg, tb⟩ := f H G (Gr.refl H) h nd1
  refine ⟨G2, Gn, h2, hn, List.nodup_append.mpr ⟨ndg, nd2, fun a ha b hb e => nd3 a (sb a ha) b hb e⟩, fun H' y G2' kp dm fz nd' ds h' => ?_⟩
  obtain ⟨G', hb, nb, mb⟩ := tb H' y G2' (fun a _ na o e => kp a o na e) fz nd' (fun a ha => (ds a ha).imp (fun h => h) fun hn z => nd3 a z a hn rfl) h'
  exact tr H' (back y) G' (fun a o na _ e => kp a o (fun z => na (sb a z)) e) (fun a ha => by
    by_cases h3 : a ∈ G2
    · exact dm a h3
    · have : ∃ o, H a = some o := by
        rcases ha with ha | ha
        · obtain ⟨o, eo, _⟩ := d.cells h a ha; exact ⟨o, eo⟩
        · obtain ⟨o, eo, _⟩ := dn.cells hn a ha; exact ⟨o, eo⟩
      obtain ⟨o, eo⟩ := this
      exact ⟨o, kp a o h3 eo⟩) nb (fun a ha => .inl (by
    rcases mb a ha with h1 | h1
    · exact .inl h1.1
    · exact (ds a h1).imp (fun z => sb a z) fun z => z)) hb
end
end L3
end
section
set_option maxHeartbeats 4000000
namespace L3
open PySem PySem.Spec PyProof.Rows L2
theorem own_val {κ α : Type} [DecidableEq κ] [Ky κ] (n : κ) : ∀ {xs : List (κ × α)} {kvs : List (Key × V)}, kvs.map (·.1) = xs.map (fun x => Ky.ky x.1) → (valV kvs (Ky.ky n)).isSome = dhas xs n
  | [], [], _ => rfl
  | [], _ :: _, e => by cases e
  | _ :: _, [], e => by cases e
  | x :: xs, u :: us, e => by
    rw [List.map_cons, List.map_cons] at e
    injection e with e1 e2
    by_cases h : x.1 = n
    · rw [valV_pos (by rw [e1, h]), dhas_get, dget_pos h]; rfl
    · rw [valV_neg (fun z => h (Ky.inj (by rw [← e1, z]))), own_val n e2, dhas_get, dhas_get, dget_neg h]
theorem own_valG {κ α : Type} [DecidableEq κ] [Ky κ] {n : κ} {xs : List (κ × α)} {kvs : List (Key × V)} {x : α} (ks : kvs.map (·.1) = xs.map (fun x => Ky.ky x.1)) (h : dget xs n = some x) : ∃ w, valV kvs (Ky.ky n) = some w := by
  have := own_val n ks
  rw [dhas_get, h] at this
  exact Option.isSome_iff_exists.mp this
section
variable {X : Cx} {W : Bool} {F : Fm} {Γ : Gm} {Δ : Δs} {γ : Type}
section
variable {o i e : Expr} {pos : Pos} {β1 β2 α : Type} {T : Option γ} {k1 : β1 → Option γ} {v : V} {d : Od} {D : α → Od} {prm : Option Nat}
theorem f_key {κ : Type} [DecidableEq κ] [Ky κ] {k : (β1 × β2) × α → Option γ} {xs : β1 → List (κ × α)} {back : β1 → List (κ × α) → Od} {n : β1 → β2 → κ} (j : Nat) (hu : X.A.units + 64 < cLine) (ho : PE X o (tFo F Γ Δ T k1 v d (oMO D) xs back))
    (hi : ∀ b1, PE X i (tE false F Γ Δ (k1 b1) (fun b2 => (dget (xs b1) (n b1 b2)).bind fun y => k ((b1, b2), y)) (fun b2 => Ky.kp (n b1 b2)) fun _ => Δ)) (hj : Δ[j]? = some ⟨v, d, prm⟩ := by rfl) (hs : NoSl i := by exact fun _ _ => rfl) :
    PE X (.Subscript o i pos) (tFo F Γ Δ T k v d D (fun b => b.2) fun b y => back b.1.1 (dput (xs b.1.1) (n b.1.1 b.1.2) y)) :=
  (pe_dget (by omega) ho (pe_ex hi) hs).wk fun σ H Q ⟨ok, g, e, q⟩ => ⟨ok, g, e, fun b1 u H1 kb1 g1 ok1 fo => ⟨b1, ok1, g, kb1, fun b2 w H2 kb2 s2 ok2 hw => by
    obtain ⟨x, ex, kx⟩ := bind_some kb2
    have fo2 := fo.gr s2.gr
    obtain ⟨G2, p, kvs, gs, _, eu, hp, z, nd, ks, o3⟩ := ok2.foc hj fo2
    obtain ⟨w', ew⟩ := own_valG ks ex
    exact ⟨p, w', eu, .inl ⟨kvs, Ky.ky (n b1 b2), .inl hp, Ky.is hw, ew.symm⟩, q ((b1, b2), x) w' H2 kx (g1.trans s2.gr) ok2 (fo2.key eu hp ex ew)⟩⟩⟩
theorem f_ix {k : (β1 × β2) × (Nat × α) → Option γ} {xs : β1 → List α} {back : β1 → List α → Od} {n : β1 → β2 → Int} (j : Nat) (ho : PE X o (tFo F Γ Δ T k1 v d (oLO D) xs back))
    (hi : ∀ b1, PE X i (tE false F Γ Δ (k1 b1) (fun b2 => (ixN (xs b1).length (n b1 b2)).bind fun m => (xs b1)[m]?.bind fun y => k ((b1, b2), (m, y))) (fun b2 => pInt (n b1 b2)) fun _ => Δ)) (hj : Δ[j]? = some ⟨v, d, prm⟩ := by rfl) (hpi : PlainIx i := by exact fun _ _ => rfl) :
    PE X (.Subscript o i pos) (tFo F Γ Δ T k v d D (fun b => b.2.2) fun b y => back b.1.1 ((xs b.1.1).set b.2.1 y)) :=
  (pe_ix ix_list ho (pe_ex hi) hpi).wk fun σ H Q ⟨ok, g, e, q⟩ => ⟨ok, g, e, fun b1 u H1 kb1 g1 ok1 fo => ⟨b1, ok1, g, kb1, fun b2 w H2 kb2 s2 ok2 hw => by
    obtain ⟨m, em, kb2⟩ := bind_some kb2
    obtain ⟨x, ex, kx⟩ := bind_some kb2
    have hw : w = .int (n b1 b2) := hw
    subst hw
    have fo2 := fo.gr s2.gr
    obtain ⟨G2, p, vs, gs, _, eu, hp, z, o3⟩ := ok2.foc hj fo2
    obtain ⟨w', g', hvw, _, _⟩ := o3.at ex
    have hat : atI vs (n b1 b2) = some w' := by
      unfold atI
      rw [← o3.len, em]
      exact hvw
    exact ⟨p, vs, n b1 b2, w', eu, rfl, .inl (.inl hp), hat, q ((b1, b2), (m, x)) w' H2 kx (g1.trans s2.gr) ok2 (fo2.ix eu hp ex hvw)⟩⟩⟩
end
section
variable {o e : Expr} {apos cpos : Pos} {β1 β2 α : Type} {T : Option γ} {k1 : β1 → Option γ} {k : β1 × β2 → Option γ} {v : V} {d : Od} {prm : Option Nat} {xs : β1 → List α} {back : β1 → List α → Od} {y : β1 → β2 → α}
theorem x_appF {Ee : α → Pd} (j : Nat) (ho : PE X o (tFo F Γ Δ T k1 v d (oL Ee) xs back)) (he : ∀ b1, PE X e (tE false F Γ Δ (k1 b1) (fun b2 => grd ((xs b1).length < sizeLine) (k (b1, b2))) (fun b2 => Ee (y b1 b2)) fun _ => Δ)) (hj : Δ[j]? = some ⟨v, d, prm⟩ := by rfl)
    (hbase : attributeBase o "append" X.env (eval o X.env) = eval o X.env := by rfl) (hline : (apos.endLine == cpos.line) = true := by rfl) (hs : starEach [e] X.env = (false, eval e X.env) :: starEach [] X.env := by rfl)
    (hfew : ((backTo cpos (starEach [e] X.env)).all (fun x => !x.1) && (backToKw cpos (keywordEach [] X.env)).all (fun x => x.1.isSome) && decide ([e].length + ([] : List Keyword).length + (if ([] : List Keyword).isEmpty then 0 else 1) < 30)) = true := by rfl) :
    PE X (.Call (.Attribute o "append" apos) [e] [] cpos) (tE true F Γ Δ T k (fun _ => pNon) fun b => Δ.set j ⟨v, back b.1 (xs b.1 ++ [y b.1 b.2]), prm⟩) :=
  (pe_bm PySem.F.plainAttrs_list PySem.F.slot_list_append PySem.F.type_list_append mt_append ho (pa_cons (pe_ex he) pa_nil hs) hbase hfew hline hs).wk fun σ H Q ⟨ok, g, e, q⟩ => ⟨ok, g, e, fun b1 u H1 kb1 g1 ok1 fo => by
    obtain ⟨_, p0, vs0, _, ev0, hp0, _, _⟩ := ok1.foc hj fo
    have ev0 : u = .ref p0 := ev0
    refine ⟨by rw [ev0]; exact .inl ⟨rfl, vs0, .inl (.inl hp0)⟩, b1, ok1, g, kb1, fun b2 w H2 kb2 s2 ok2 hw => ?_⟩
    obtain ⟨c, kb⟩ := grd_some kb2
    obtain ⟨G2, ⟨p, vs, eg, ev, hp, z, pq⟩, nd, tr⟩ := ok2.focT hj (fo.gr s2.gr)
    have eg : G2 = [p] := eg
    have fzm : Fzs H2 (upd H2 p (.lst (vs ++ [w]))) := Fzs.mut hp fun z => z
    obtain ⟨ok3, s3⟩ := tr (upd H2 p (.lst (vs ++ [w]))) (xs b1 ++ [y b1 b2]) G2 (fun a o na e => by rw [upd_ne fun q => na (by rw [eg, q]; exact List.mem_singleton.mpr rfl)]; exact e) (fun a ha => by
      rw [eg] at ha
      rw [List.mem_singleton.mp ha]
      exact ⟨_, upd_same⟩) fzm nd (fun a ha => .inl ha) ⟨p, vs ++ [w], eg, ev, upd_same, by rw [List.length_append, List.length_singleton]; omega, paired_app (paired_mono (fun x _ h => (Ee x).mono fzm h) pq) (.cons ((Ee _).mono fzm hw) .nil)⟩
    exact ⟨p, vs, w, ev, rfl, hp, by rw [← paired_len pq]; exact c, q (b1, b2) .non _ kb ((g1.trans s2.gr).st.trans s3) ok3 rfl⟩⟩
end
theorem Ok.okN {H0 : Hp} {σ : SS} {H : Hp} {w : V} {dn : Od} (ok : Ok F Γ (⟨w, dn, none⟩ :: Δ) σ H) : OkN true F Γ H0 w dn Δ σ H := by
  obtain ⟨⟨Δ0, e, k⟩, n⟩ := ok
  match Δ0, e, k with
  | c1 :: R, e, k =>
    obtain ⟨G1, v1, d1, p1⟩ := c1
    have e' : (⟨v1, d1, p1⟩ : Cell) = ⟨w, dn, none⟩ ∧ R.map Cel.fg = Δ := by simpa [Cel.fg] using e
    obtain ⟨e1, e2⟩ := e'
    cases e1
    exact ⟨R, G1, e2, k, (fun h => nomatch h), n⟩
theorem putK_eq (us : List (Key × V)) (k : Key) (v : V) : putK us k v = dput us k v := rfl
theorem dput_new {κ α : Type} [DecidableEq κ] {xs : List (κ × α)} {k : κ} {y : α} (h : dhas xs k = false) : dput xs k y = xs ++ [(k, y)] := by
  unfold dput
  rw [if_neg]
  intro z
  unfold dhas at h
  rw [h] at z
  cases z
theorem dhas_not {κ α : Type} [DecidableEq κ] {xs : List (κ × α)} {k : κ} (h : dhas xs k = false) : k ∉ xs.map Prod.fst := fun z => by
  obtain ⟨p, hp, e⟩ := List.mem_map.mp z
  unfold dhas at h
  have := List.any_eq_false.mp h p hp
  simp [e] at this
theorem own_put {κ α : Type} [DecidableEq κ] [Ky κ] {D : α → Od} {H : Hp} {xs : List (κ × α)} {kvs : List (Key × V)} {gs : List (List Addr)} {n : κ} {y : α} {w : V} {Gn : List Addr} (nd : (xs.map Prod.fst).Nodup) (ks : kvs.map (·.1) = xs.map (fun x => Ky.ky x.1)) (o3 : Own3 (fun x : κ × α => D x.2) H xs (kvs.map (·.2)) gs) (ng : (gs.flatten ++ Gn).Nodup) (pn : (D y).pr Gn H w) :
    ∃ gs', ((dput xs n y).map Prod.fst).Nodup ∧ (putK kvs (Ky.ky n) w).map (·.1) = (dput xs n y).map (fun x => Ky.ky x.1) ∧ Own3 (fun x : κ × α => D x.2) H (dput xs n y) ((putK kvs (Ky.ky n) w).map (·.2)) gs' ∧ gs'.flatten.Nodup ∧ ∀ a ∈ gs'.flatten, a ∈ gs.flatten ∨ a ∈ Gn := by
  obtain ⟨n1, n2, n3⟩ := List.nodup_append.mp ng
  have ndkv : (kvs.map (·.1)).Nodup := by
    rw [ks]
    have e : xs.map (fun x => Ky.ky x.1) = (xs.map Prod.fst).map Ky.ky := by rw [List.map_map]; rfl
    rw [e]
    exact nodup_mapI (fun a b e => Ky.inj e) nd
  rw [putK_eq]
  cases h : dget xs n with
  | some x =>
    obtain ⟨m, hm⟩ := dget_at h
    have h1 : (kvs.map (·.1))[m]? = some (Ky.ky n) := by rw [ks, List.getElem?_map, hm]; rfl
    rw [List.getElem?_map] at h1
    cases hk : kvs[m]? with
    | none => rw [hk] at h1; cases h1
    | some q =>
      rw [hk] at h1
      have h1 : q.1 = Ky.ky n := Option.some.inj h1
      have hk : kvs[m]? = some (Ky.ky n, q.2) := by rw [hk, ← h1]
      have ml : m < gs.length := by rw [← o3.glen]; exact (List.getElem?_eq_some_iff.mp hm).1
      have hg := List.getElem?_eq_getElem ml
      obtain ⟨f1, f2⟩ := flat_set (g' := Gn) hg n1 n2 (fun a ha => .inr fun z => n3 a z a ha rfl)
      refine ⟨gs.set m Gn, ?_, ?_, ?_, f1, fun a ha => (f2 a ha).imp (fun h => h.1) fun h => h⟩
      · rw [dput_set nd hm, List.map_set, set_self' (by rw [List.getElem?_map, hm]; rfl)]; exact nd
      · rw [dput_set nd hm, dput_set ndkv hk, List.map_set, List.map_set, set_self' (by rw [List.getElem?_map, hk]; rfl), set_self' (by rw [List.getElem?_map, hm]; rfl)]; exact ks
      · rw [dput_set nd hm, dput_set ndkv hk, List.map_set]
        exact o3.turnG (y := (n, y)) (Fzs.refl H) pn n1 (fun a ha na o e => e) (List.getElem?_eq_some_iff.mp hm).1 hg
  | none =>
    have hn : dhas xs n = false := by rw [dhas_get, h]; rfl
    have hk : dhas kvs (Ky.ky n) = false := by
      have := own_val n ks
      rw [hn] at this
      rw [dhas_get]
      exact this
    refine ⟨gs ++ [Gn], ?_, ?_, ?_, ?_, fun a ha => ?_⟩
    · rw [dput_new hn, List.map_append]
      exact List.nodup_append.mpr ⟨nd, List.nodup_cons.mpr ⟨List.not_mem_nil, List.nodup_nil⟩, fun a ha b hb e => by
        rw [List.map_cons, List.map_nil] at hb
        rw [List.mem_singleton.mp hb] at e
        exact dhas_not hn (by have e : a = n := e; rw [← e]; exact ha)⟩
    · rw [dput_new hn, dput_new hk, List.map_append, List.map_append, ks]; rfl
    · rw [dput_new hn, dput_new hk, List.map_append]
      exact o3.app (y := (n, y)) pn
    · rw [List.flatten_append, List.flatten_cons, List.flatten_nil, List.append_nil]; exact ng
    · rw [List.flatten_append, List.flatten_cons, List.flatten_nil, List.append_nil] at ha
      exact List.mem_append.mp ha
section
variable {N : Fn γ} {rest : List Stmt} {κ : Type} [DecidableEq κ] [Ky κ]
theorem s_putFO {o i e : Expr} {pos pos' : Pos} {β0 β1 β2 α : Type} {T : Option γ} {k0 : β0 → Option γ} {k1 : β0 → β1 → Option γ} {k : (β0 × β1) × β2 → Option γ} {Δ0 : β0 → Δs} {D : α → Od} {y : β0 → α} {xs : β0 → β1 → List (κ × α)} {back : β0 → β1 → List (κ × α) → Od} {n : β0 → β1 → β2 → κ} {v : V} {d : β0 → Od} {prm : Option Nat} (j : Nat) (hu : X.A.units + 64 < cLine)
    (he : PE X e (tO true F Γ Δ T k0 (fun b => D (y b)) Δ0)) (ho : ∀ b0 w, PE X o (tFo F Γ (⟨w, D (y b0), none⟩ :: Δ0 b0) (k0 b0) (k1 b0) v (d b0) (oMO D) (xs b0) (back b0)))
    (hi : ∀ b0 b1 w, PE X i (tE false F Γ (⟨w, D (y b0), none⟩ :: Δ0 b0) (k1 b0 b1) (fun b2 => grd ((xs b0 b1).length < sizeLine) (k ((b0, b1), b2))) (fun b2 => Ky.kp (n b0 b1 b2)) fun _ => ⟨w, D (y b0), none⟩ :: Δ0 b0))
    (hj : ∀ b0, (Δ0 b0)[j]? = some ⟨v, d b0, prm⟩)
    (hr : ∀ b : (β0 × β1) × β2, PSs X rest (tS F Γ ((Δ0 b.1.1).set j ⟨v, back b.1.1 b.1.2 (dput (xs b.1.1 b.1.2) (n b.1.1 b.1.2 b.2) (y b.1.1)), prm⟩) N (k b)))
    (hs : swapsWith e (some (.Subscript o i pos')) pos.line X.env = pure false := by rfl) :
    PSs X (.Assign [.Subscript o i pos'] e pos :: rest) (tS F Γ Δ N T) :=
  (pss_cons (ps_dput (by omega) (pe_ex fun b0 => pe_ex fun w => ho b0 w) (pe_ex fun b0 => pe_ex fun b1 => pe_ex fun w => hi b0 b1 w) he hs) (pss_ex hr)).wk fun _ σ H ⟨ok, g, e, f⟩ => ⟨ok, g, e, fun b0 u H0 kb0 f0 okn => ⟨b0, u, okn.ok, g, kb0, fun b1 w H1 kb1 f1 ok1 fo => ⟨b0, b1, u, ok1, g, kb1, fun b2 z H2 kb2 f2 ok2 hz => by
    obtain ⟨c, km⟩ := grd_some kb2
    have hz := Ky.is hz
    obtain ⟨G2, Gn, ⟨p, kvs, gs, eG, ev, hp, zz, nd, ks, o3⟩, pn, ndG, tr⟩ := (Ok.okN (H0 := H) ok2).focT (hj b0) (fo.gr f2.gr)
    have eG : G2 = p :: gs.flatten := eG
    subst eG
    obtain ⟨q1, q2⟩ := List.nodup_cons.mp ndG
    obtain ⟨gs', r1, r2, r3, r4, r5⟩ := own_put (n := n b0 b1 b2) nd ks o3 q2 pn
    have pg' : p ∉ gs'.flatten := fun h => q1 (List.mem_append.mpr (r5 p h))
    have fzm : Fzs H2 (upd H2 p (.dK (putK kvs (Ky.ky (n b0 b1 b2)) u))) := Fzs.mut hp fun z => z
    have kp : ∀ a o, a ≠ p → H2 a = some o → upd H2 p (.dK (putK kvs (Ky.ky (n b0 b1 b2)) u)) a = some o := fun a o na e => by rw [upd_ne na]; exact e
    have kl : kvs.length = (xs b0 b1).length := by
      have := congrArg List.length ks
      rw [List.length_map, List.length_map] at this
      exact this
    refine ⟨p, _, ev, .inl ⟨kvs, Ky.ky (n b0 b1 b2), hp, hz, by rw [kl]; exact c, rfl⟩, ((b0, b1), b2), ?_⟩
    obtain ⟨ok3, fz3, _⟩ := tr (upd H2 p (.dK (putK kvs (Ky.ky (n b0 b1 b2)) u))) (dput (xs b0 b1) (n b0 b1 b2) (y b0)) (p :: gs'.flatten) (fun a o na e => kp a o (fun z => na (by rw [z]; exact List.mem_cons_self)) e) (fun a ha => by
        rcases List.mem_cons.mp ha with e | h
        · rw [e]; exact ⟨_, upd_same⟩
        · obtain ⟨o, e, _⟩ := o3.cells a h; exact upd_dom _ _ a o e) fzm (List.nodup_cons.mpr ⟨pg', r4⟩) (fun a ha => by
        rcases List.mem_cons.mp ha with e | ha
        · exact .inl (by rw [e]; exact List.mem_cons_self)
        · exact (r5 a ha).imp (fun h => List.mem_cons_of_mem _ h) fun h => h) ⟨p, _, gs', rfl, ev, upd_same, Nat.le_trans (dput_len _ _ _) c, r1, r2, r3.frame fzm fun a ha o e => kp a o (fun z => pg' (by rw [← z]; exact ha)) e⟩
    exact ⟨ok3, g, km, N.mono f (((f0.fz.trans f1.fzs).trans f2.fz).trans fz3)⟩⟩⟩⟩
theorem x_dict0O {pos : Pos} {α : Type} {k : Unit → Option γ} (D : α → Od) : PE X (.Dict [] [] pos) (tO W F Γ Δ (k ()) k (fun _ => oMO (κ := κ) D []) fun _ => Δ) :=
  pe_dnewK.wk fun σ H Q ⟨ok, g, e, q⟩ p np => by
    have gr : Gr H (upd H p (.dK [])) := Gr.new np
    exact q () _ _ e gr.st (ok.add gr (G := [p]) (List.nodup_cons.mpr ⟨List.not_mem_nil, List.nodup_nil⟩) (fun a ha => by rw [List.mem_singleton.mp ha]; exact np) ⟨p, [], [], rfl, rfl, upd_same, Nat.zero_le _, List.nodup_nil, rfl, .nil⟩)
end
end
end L3
end
section
set_option maxHeartbeats 4000000
namespace L3
open PySem PySem.Spec PyProof.Rows L2
def oF {α : Type} (E : α → Pd) (x : α) : Od where
  pr G H v := G = [] ∧ (E x).pr H v
  pd := E x
  frame := fun ⟨e, h⟩ _ f => ⟨e, (E x).mono f h⟩
  cells := fun ⟨e, _⟩ a ha => by rw [e] at ha; cases ha
  lockd := fun {G H H1 v} ⟨e, h⟩ h1 _ => (E x).mono (fun a o _ ha => by rw [h1 a (by rw [e]; exact List.not_mem_nil)]; exact ha) h
section
variable {X : Cx} {W : Bool} {F : Fm} {Γ : Gm} {Δ : Δs} {γ : Type}
theorem o_ofE {e : Expr} {β α : Type} {T : Option γ} {k : β → Option γ} {E : α → Pd} {x : β → α} {Δ' : β → Δs} (h : PE X e (tE W F Γ Δ T k (fun b => E (x b)) Δ')) : PE X e (tO W F Γ Δ T k (fun b => oF E (x b)) Δ') :=
  h.wk fun σ H Q ⟨ok, g, e, q⟩ => ⟨ok, g, e, fun b v H' kb st ok' hv => q b v H' kb st (by
    obtain ⟨⟨Δ0, e0, k0⟩, n⟩ := ok'
    exact ⟨Δ0, [], e0, k0.cons List.nodup_nil (fun _ h => nomatch h) ⟨rfl, hv⟩ (fun _ h => nomatch h), (fun _ _ h => nomatch h), n⟩)⟩
theorem own_flat {α : Type} {E : α → Pd} {H : Hp} : ∀ {xs : List α} {vs : List V} {gs : List (List Addr)}, Own3 (oF E) H xs vs gs → gs.flatten = [] ∧ Paired (fun x u => (E x).pr H u) xs vs
  | _, _, _, .nil => ⟨rfl, .nil⟩
  | _, _, _, .cons r t => by
    obtain ⟨e, p⟩ := own_flat t
    obtain ⟨e1, h⟩ := r
    exact ⟨by rw [List.flatten_cons, e, e1]; rfl, .cons h p⟩
theorem OkN.ofd {H0 : Hp} {σ : SS} {H : Hp} {w : V} {d d' : Od} (ok : OkN W F Γ H0 w d Δ σ H) (f : ∀ G H v, d.pr G H v → d'.pr G H v) : OkN W F Γ H0 w d' Δ σ H := by
  obtain ⟨Δ0, G, e, k, nw, n⟩ := ok
  exact ⟨Δ0, G, e, ⟨k.base, fun c hc => by
    rcases List.mem_cons.mp hc with z | z
    · subst z; exact f G H w (k.del _ List.mem_cons_self)
    · exact k.del c (List.mem_cons_of_mem _ z), k.nod, fun c hc a ha => by
    rcases List.mem_cons.mp hc with z | z
    · subst z; exact k.own _ List.mem_cons_self a ha
    · exact k.own c (List.mem_cons_of_mem _ z) a ha, k.mem⟩, nw, n⟩
section
variable {κ δ : Type} [DecidableEq κ] [Ky κ]
theorem oM_of {E : δ → Pd} {xs : List (κ × δ)} {G : List Addr} {H : Hp} {v : V} (h : (oMO (oF E) xs).pr G H v) : (oM E xs).pr G H v := by
  obtain ⟨p, kvs, gs, eg, ev, hp, z, nd, ks, o3⟩ := h
  obtain ⟨e, pp⟩ := own_flat (E := fun x : κ × δ => E x.2) (show Own3 (oF fun x : κ × δ => E x.2) H xs (kvs.map (·.2)) gs from by
    have : ∀ {xs : List (κ × δ)} {vs : List V} {gs : List (List Addr)}, Own3 (fun x : κ × δ => oF E x.2) H xs vs gs → Own3 (oF fun x : κ × δ => E x.2) H xs vs gs := by
      intro xs vs gs h
      induction h with
      | nil => exact .nil
      | cons r _ ih => exact .cons r ih
    exact this o3)
  exact ⟨p, kvs, by rw [eg, e], ev, hp, z, prM_of ks pp⟩
def dcM {α : Type} : List α → List (κ × δ) → (α → Option (κ × δ)) → Option (List (κ × δ))
  | [], acc, _ => some acc
  | x :: xs, acc, f => (f x).bind fun p => dcM xs (dput acc p.1 p.2) f
variable {α β β2 β3 : Type} {g : TG} {own : List (Str × Nat)} {T : Option γ} {k : β × List (κ × δ) → Option γ} {Ex : α → Pd} {D : δ → Od} {bd : Gm → α → Gm} {xs : β → List α} {Δ1 : β → Δs} {f : β → α → Option (κ × δ)} {T2 : β → α → β2 → Option (κ × δ)} {ky : β → α → β2 → κ} {y : β → α → β2 → β3 → δ}
abbrev dcK (F : Fm) (Γ : Gm) (own : List (Str × Nat)) (bd : Gm → α → Gm) (C : β → Δs) (f : β → α → Option (κ × δ)) (T2 : β → α → β2 → Option (κ × δ)) (ky : β → α → β2 → κ) : TE := fun σ H Q => ∃ d b x, tE true F (bd (wipeG Γ (own.map (·.2))) x) (C b ++ [d]) (f b x) (T2 b x) (fun b2 => Ky.kp (ky b x b2)) (fun _ => C b ++ [d]) σ H Q
abbrev dcV (F : Fm) (Γ : Gm) (own : List (Str × Nat)) (bd : Gm → α → Gm) (C : β → Δs) (T2 : β → α → β2 → Option (κ × δ)) (ky : β → α → β2 → κ) (D : δ → Od) (y : β → α → β2 → β3 → δ) : TE := fun σ H Q => ∃ d b x b2, tO true F (bd (wipeG Γ (own.map (·.2))) x) (C b ++ [d]) (T2 b x b2) (fun b3 => some (ky b x b2, y b x b2 b3)) (fun b3 => D (y b x b2 b3)) (fun _ => C b ++ [d]) σ H Q
theorem Hk.oneD {H H0 : Hp} {d : Od} {D : Addr} {σ : SS} (k : Hk F (⟨.ref D, d, none⟩ :: Δ) H) (n : Nm Γ σ H) : OkN true F Γ H0 (.ref D) d Δ σ H := Ok.okN ⟨k, n⟩
theorem dc_imp (ht : TgtW g Ex bd (own.map (·.2))) :
    ∀ σ H Q, tO true F Γ Δ T k (fun b => oMO D b.2) (fun b => Δ1 b.1) σ H Q → tDc (tI true F Γ Δ T (fun b => (dcM (xs b) [] (f b)).bind fun r => k (b, r)) Ex xs Δ1) g (fun σ H Q => Q true H) (dcK F Γ own bd Δ1 f T2 ky) (dcV F Γ own bd Δ1 T2 ky D y) (own.map (·.2)) σ H Q :=
  fun σ H Q ⟨ok0, gg, e, q⟩ => ⟨ok0, gg, e, fun b J H1 kb f1 ok1 zl wk Da nD => by
    obtain ⟨r, er, kr⟩ := bind_some kb
    have grD : Gr H1 (upd H1 Da (.dK [])) := Gr.new nD
    have hk0 : Hk F (Δ1 b ++ [⟨.ref Da, oMO (κ := κ) D [], none⟩]) (upd H1 Da (.dK [])) :=
      (ok1.add (W := true) grD (G := [Da]) (v := .ref Da) (d := oMO (κ := κ) D []) (List.nodup_cons.mpr ⟨List.not_mem_nil, List.nodup_nil⟩) (fun a ha => by rw [List.mem_singleton.mp ha]; exact nD) ⟨Da, [], [], rfl, rfl, upd_same, Nat.zero_le _, List.nodup_nil, rfl, .nil⟩).ok.hk.perm (List.perm_append_singleton _ _).symm
    refine ⟨fun i m H' => i + m = (xs b).length ∧ St true H1 H' ∧ ∃ acc, acc.length ≤ i ∧ Hk F (Δ1 b ++ [⟨.ref Da, oMO D acc, none⟩]) H' ∧ dcM ((xs b).drop i) acc (f b) = some r, ⟨(xs b).length, Nat.zero_add _, grD.st, [], Nat.le_refl _, hk0, by rw [List.drop_zero]; exact er⟩, fun i m H2 ⟨em, st2, acc, la, hk2, ec⟩ => ?_⟩
    by_cases hi : i < (xs b).length
    · obtain ⟨x, hx, ed⟩ := drop_cons hi
      rw [ed] at ec
      obtain ⟨o, eo, ec⟩ := bind_some (show (f b x).bind _ = some r from ec)
      refine .inr ⟨((wk H2 st2.fz) i).1 hi, fun H' => (i + 1) + (m - 1) = (xs b).length ∧ St true H1 H' ∧ ∃ acc, acc.length ≤ i + 1 ∧ Hk F (Δ1 b ++ [⟨.ref Da, oMO D acc, none⟩]) H' ∧ dcM ((xs b).drop (i + 1)) acc (f b) = some r, fun H' h => ⟨m - 1, by omega, h⟩, fun v H3 hy => ?_⟩
      obtain ⟨gr3, pv⟩ := ((wk H2 st2.fz) i).2.2 x v H3 hx hy
      have st3 : St true H1 H3 := st2.trans gr3.st
      refine ht F Γ _ σ H3 x v _ (ok1.wipe st3.fz (hk2.gr gr3) _) pv fun σ4 ew ok4 => ⟨ew, iteT ⟨⟨.ref Da, oMO D acc, none⟩, b, x, ok4, o, eo, fun b2 kv H5 kb2 st5 ok5 hkv => ⟨⟨.ref Da, oMO D acc, none⟩, b, x, b2, ok5, o, kb2, fun b3 w H6 kb3 st6 okn => ?_⟩⟩⟩
      cases kb3
      have hlast : (Δ1 b ++ [⟨.ref Da, oMO D acc, none⟩])[(Δ1 b).length]? = some ⟨.ref Da, oMO D acc, none⟩ := by rw [List.getElem?_append_right (Nat.le_refl _), Nat.sub_self]; rfl
      obtain ⟨G2, Gn, ⟨p, kvs, gs, eG, ev, hp, zz, nd, ks, o3⟩, pn, ndG, tr⟩ := okn.absorb hlast
      cases ev
      have eG : G2 = Da :: gs.flatten := eG
      subst eG
      obtain ⟨q1, q2⟩ := List.nodup_cons.mp ndG
      obtain ⟨gs', r1, r2, r3, r4, r5⟩ := own_put (n := ky b x b2) nd ks o3 q2 pn
      have pg' : Da ∉ gs'.flatten := fun h => q1 (List.mem_append.mpr (r5 Da h))
      have fzm : Fzs H6 (upd H6 Da (.dK (putK kvs (Ky.ky (ky b x b2)) w))) := Fzs.mut hp fun z => z
      have kp : ∀ a o, a ≠ Da → H6 a = some o → upd H6 Da (.dK (putK kvs (Ky.ky (ky b x b2)) w)) a = some o := fun a o na e => by rw [upd_ne na]; exact e
      have kl : kvs.length = acc.length := by
        have := congrArg List.length ks
        rw [List.length_map, List.length_map] at this
        exact this
      have hlt : acc.length < sizeLine := by omega
      obtain ⟨ok3, fz3, dom3⟩ := tr (upd H6 Da (.dK (putK kvs (Ky.ky (ky b x b2)) w))) (oMO D (dput acc (ky b x b2) (y b x b2 b3))) (Da :: gs'.flatten) (fun a o na _ e => kp a o (fun z => na (by rw [z]; exact List.mem_cons_self)) e) (fun a ha => by
          have : ∃ o, H6 a = some o := by
            rcases ha with h | h
            · rcases List.mem_cons.mp h with e | h
              · rw [e]; exact ⟨_, hp⟩
              · obtain ⟨o, e, _⟩ := o3.cells a h; exact ⟨o, e⟩
            · obtain ⟨o, e, _⟩ := (D _).cells pn a h; exact ⟨o, e⟩
          obtain ⟨o, e⟩ := this
          exact upd_dom _ _ a o e) (List.nodup_cons.mpr ⟨pg', r4⟩) (fun a ha => .inl (by
          rcases List.mem_cons.mp ha with e | ha
          · exact .inl (by rw [e]; exact List.mem_cons_self)
          · exact (r5 a ha).imp (fun h => List.mem_cons_of_mem _ h) fun h => h)) ⟨Da, _, gs', rfl, rfl, upd_same, Nat.le_trans (dput_len _ _ _) hlt, r1, r2, r3.frame fzm fun a ha o e => kp a o (fun z => pg' (by rw [← z]; exact ha)) e⟩
      refine ⟨kvs, Ky.ky (ky b x b2), Ky.is hkv, hp, by rw [kl]; exact hlt, by omega, ((st3.trans st5).trans st6).trans ⟨fz3, (fun h => nomatch h), dom3⟩, dput acc (ky b x b2) (y b x b2 b3), Nat.le_trans (dput_len _ _ _) (by omega), ?_, ec⟩
      have hk7 := ok3.hk
      rw [List.set_append_right _ _ (Nat.le_refl _), Nat.sub_self] at hk7
      exact hk7
    · refine .inl ⟨((wk H2 st2.fz) i).2.1 (by omega), ?_⟩
      rw [List.drop_eq_nil_of_le (by omega)] at ec
      have ec : some acc = some r := ec
      cases ec
      have hkf := hk2.perm (List.perm_append_singleton _ _)
      exact q (b, r) _ H2 kr (f1.trans st2) (Hk.oneD hkf (ok1.nm.mono st2.fz))⟩
end
end
end L3
end
section
set_option maxHeartbeats 4000000
namespace PySem.SeqAt
open AutoSeq1 (wpAny_loadPart')
open MeetsSeq MeetsSeq2 MeetsSeq3 SeqRoads2
section
variable {prog : Program} {w : World}
end
end PySem.SeqAt
end
section
set_option maxHeartbeats 4000000
namespace L3
open PySem PySem.Spec PyProof.Rows L2
structure De {α : Type} (E : α → Pd) where
  dep : Nat
  ok : α → α → Bool
  eqv : α → α → Bool
  rc : ∀ {X : Cx} {pins : List (Addr × Obj)} {σ : SS} {H : Hp} {s : Shared}, Inv X pins σ H s → ∀ A : Around, A.units + dep < cLine → ∀ x y, ok x y = true → ∀ v u v' u', (E x).pr H v → (E y).pr H u → RelV v v' → RelV u u' → SeqAt.EqP X.prog X.w A.in1 s v' u' (eqv x y)
  same : ∀ (H : Hp) x y v, ok x y = true → (E x).pr H v → (E y).pr H v → eqv x y = true
section
variable {κ α : Type} [DecidableEq κ] [Ky κ]
end
section
variable {α : Type}
end
end L3
end
section
set_option maxHeartbeats 4000000
namespace L3
open PySem PySem.Spec PyProof.Rows L2
section
variable {X : Cx} {W : Bool} {F : Fm} {Γ : Gm} {Δ : Δs} {γ : Type}
section
variable {a b : Expr} {pos : Pos} {β1 β2 α : Type} {T : Option γ} {k1 : β1 → Option γ} {k : β1 × β2 → Option γ} {Δ1 : β1 → Δs} {Δ2 : β1 → β2 → Δs} {Ee : α → Pd} {x : β1 → List α} {y : β1 → β2 → List α}
end
end
theorem o_T {Y : Cx} {W : Bool} {F : Fm} {β : Type} {Γ : Gm} {Δ : Δs} {γ : Type} {e : Expr} {T T' : Option γ} {k : β → Option γ} {D : β → Od} {Δ' : β → Δs} (h : PE Y e (tO W F Γ Δ T' k D Δ')) (hT : T = T') : PE Y e (tO W F Γ Δ T k D Δ') := by rw [hT]; exact h
end L3
end
section
set_option maxHeartbeats 4000000
set_option autoImplicit true
namespace L3
open PySem PySem.Spec PyProof.Rows L2
section
variable {X : Cx} {W : Bool} {F : Fm} {Γ : Gm} {Δ : Δs} {γ : Type}
section
variable {e a b : Expr} {r : R2} {β1 β2 : Type} {T : Option γ} {k1 : β1 → Option γ} {E1 : β1 → Pd} {E2 : β1 → β2 → Pd} {Δ1 : β1 → Δs} {Δ2 : β1 → β2 → Δs}
theorem t2g {c : β1 × β2 → Bool} {k : β1 × β2 → Option γ} {d : β1 → β2 → Prop} [∀ b1 b2, Decidable (d b1 b2)] (h2 : Bin2T X e a b r) (ha : PE X a (tE W F Γ Δ T k1 E1 Δ1)) (hb : ∀ b1, PE X b (tE W F Γ (Δ1 b1) (k1 b1) (fun b2 => grd (d b1 b2) (k (b1, b2))) (E2 b1) (Δ2 b1)))
    (hv : ∀ b1 b2 σ v w H Q, Ok F Γ (Δ2 b1 b2) σ H → d b1 b2 → (E1 b1).pr H v → (E2 b1 b2).pr H w → (∀ u, (pBl (c (b1, b2))).pr H u → Q u H) → r v w H Q) : PT X e (tTs W F Γ Δ T k c fun b => Δ2 b.1 b.2) :=
  t2_core h2 ha hb fun σ H Q ⟨ok, g, e, q⟩ => ⟨ok, g, e, fun b1 b2 v w H2 kb f ok2 hv1 hv2 => hv b1 b2 σ v w H2 _ ok2 (grd_some kb).1 hv1 hv2 fun u hu => ⟨c (b1, b2), hu, q (b1, b2) H2 (grd_some kb).2 f ok2⟩⟩
end
section
variable {a b : Expr} {pos : Pos} {β1 β2 α : Type} {T : Option γ} {k1 : β1 → Option γ} {k : β1 × β2 → Option γ} {Δ1 : β1 → Δs} {Δ2 : β1 → β2 → Δs} {Ee : α → Pd} {x : β1 → List α} {y : β1 → β2 → List α}
end
section
variable {a b : Expr} {pos : Pos} {β1 β2 α : Type} [DecidableEq α] {T : Option γ} {k1 : β1 → Option γ} {k : β1 × β2 → Option γ} {Δ1 : β1 → Δs} {Δ2 : β1 → β2 → Δs} {Ee : α → Pd} {x : β1 → α} {y : β1 → β2 → α}
theorem t_neG (d : Dg Ee) (hu : X.A.units + 64 < cLine) (ha : PE X a (tE W F Γ Δ T k1 (fun b => Ee (x b)) Δ1)) (hb : ∀ b1, PE X b (tE W F Γ (Δ1 b1) (k1 b1) (fun b2 => grd (okG d (x b1) (y b1 b2) = true) (k (b1, b2))) (fun b2 => Ee (y b1 b2)) (Δ2 b1))) (hd : d.dep < 60 := by decide) :
    PT X (.Compare a [.NotEq] [b] pos) (tTs W F Γ Δ T k (fun b => !decide (x b.1 = y b.1 b.2)) fun b => Δ2 b.1 b.2) :=
  t2g (bt_cmp (op_neD hu) (nomark _)) ha hb fun b1 b2 σ v w H Q ok c hv hw q => by
    obtain ⟨c1, c2⟩ := Bool.and_eq_true_iff.mp c
    exact ⟨_, _, d.dp hv, d.dp hw, d.sh hd c1, d.sh hd c2, by rw [d.eq]; exact q _ rfl⟩
end
end
end L3
end
section
set_option maxHeartbeats 2000000
namespace PySem
namespace SxX
open PySem.W PySem.Calls PyProof.Rows PySem.HandSPX
abbrev exR (C t : Addr) (dv : Option Addr) : Obj := { cls := .ref C, dict := dv, data := .fields #[.ref t, .none, .none, .none, .bool false, .none] }
inductive Stores : List Stmt → List Str → Prop
  | nil : Stores [] []
  | cons {rest : List Stmt} {fs : List Str} {f : Str} {q1 q2 q3 q4 : Pos} (hd : (f == ("__debug__" : Str)) = false) (h : Stores rest fs) : Stores (.Assign [.Attribute (.Name "self" q1) f q2] (.Name f q3) q4 :: rest) (f :: fs)
theorem kept_but {K : Frag} {h h' : Heap} {x : Addr} (X : K.In h) (hx : K.lookup x = none) (k : ∀ b o, b ≠ x → h.get? b = some o → h'.get? b = some o) : K.In h' := fun a o e =>
  k a o (fun z => by rw [z, hx] at e; cases e) (X a o e)
theorem ns_but {h h' : Heap} {L x : Addr} {m : Str → Option Value} (hn : h.Ns L m) (hL : L ≠ x) (k : ∀ b o, b ≠ x → h.get? b = some o → h'.get? b = some o) : h'.Ns L m := by
  obtain ⟨oL, es, ep, e, r⟩ := hn
  exact ⟨oL, es, ep, k _ _ hL e, r⟩
theorem lookup_cons (f g : Str) (v : Value) (l : List (Str × Value)) : ((f, v) :: l).lookup g = if g = f then some v else l.lookup g := by
  by_cases h : g = f
  · subst h; rw [if_pos rfl]; simp [List.lookup]
  · rw [if_neg h]
    have : (g == f) = false := by simpa using h
    simp [List.lookup, this]
theorem within_self (l : List (Str × Value)) : Within (fun y => l.lookup y) (l.map (·.1)) := fun y hy => by
  induction l with
  | nil => exact absurd (show (none : Option Value) ≠ none from hy) (fun z => z rfl)
  | cons p l ih =>
    obtain ⟨f, v⟩ := p
    have hy : ((f, v) :: l).lookup y ≠ none := hy
    rw [lookup_cons] at hy
    by_cases e : y = f
    · rw [e]; exact List.mem_cons_self
    · rw [if_neg e] at hy
      exact List.mem_cons_of_mem _ (ih hy)
def Dct (h : Heap) (K : Frag) (x L n : Addr) (dv : Option Addr) (done : List (Str × Value)) : Prop :=
  match dv with
  | none => done = []
  | some dx => h.Ns1 dx (fun y => done.lookup y) ∧ K.lookup dx = none ∧ dx ≠ x ∧ dx ≠ L ∧ n ≤ dx
section
variable {prog : Program} {w : World} {A : Around} {E : Value → Shared → Prop} {K : Frag} {C x L t1 : Addr} {env : Env} {g : Array GenState} {d : Drawn} {os : OsState} {hb : Heap} {m : Str → Option Value} {cd : ClassData}
theorem ldL {M : Model} {s : Shared} {y : Str} {pos : Pos} {v : Value} {Q : Value → Shared → Prop} (hk : env.scope.kind = .function) (hl : env.kindOf y = some .local) (hL : env.locals = L) (hn : s.heap.Ns L m) (hv : m y = some v) (h : Q v s) (hd : (y == ("__debug__" : Str)) = false) :
    wpAny M A (eval (.Name y pos) env) Q E s := wpAny_Name (wpAny_loadName_local hk hl (by rw [hL]; exact hn) hv h) hd
theorem stores_run (hk : env.scope.kind = .function) (hL : env.locals = L) (hself : env.kindOf "self" = some .local) (hms : m "self" = some (.ref x)) (hcl : clsIn K C = some cd) (hm : refsVE cd.mro = true) (hh : cd.hasDict = true) (sa : findIn K (.ref C) "__setattr__" = some (some (.builtin "object.__setattr__")))
    (hnx : K.lookup x = none) (hxL : L ≠ x) : ∀ {st : List Stmt} {fs : List Str}, Stores st fs → ∀ {h : Heap} {tk : Nat} {vs : List Value} {done : List (Str × Value)} {dv : Option Addr} {Q : Flow → Shared → Prop},
    K.In h → h.Ns L m → vs.length = fs.length → (∀ (i : Nat) f v, fs[i]? = some f → vs[i]? = some v → m f = some v) → (∀ f ∈ fs, env.kindOf f = some .local) → (∀ f ∈ fs, findIn K (.ref C) f = some none) → h.get? x = some (exR C t1 dv) → Dct h K x L hb.objs.size dv done →
    done.length + fs.length ≤ 900 → L < h.objs.size → hb.objs.size ≤ h.objs.size → (∀ b o, b ≠ x → hb.get? b = some o → h.get? b = some o) →
    (∀ (h' : Heap) (tk' : Nat) (dv' : Option Addr), (∀ b o, b ≠ x → hb.get? b = some o → h'.get? b = some o) → h'.get? x = some (exR C t1 dv') → Dct h' K x L hb.objs.size dv' ((fs.zip vs).reverse ++ done) → (fs = [] → dv' = dv) → Q .next ⟨h', g, d, tk', os⟩) →
    wpAny (model prog w) A (execs st env) Q E ⟨h, g, d, tk, os⟩
  | _, _, .nil, h, tk, vs, done, dv, Q, X, hn, hl, hv, hloc, hno, hx, hD, hz, hLs, hsz, hkb, hq => by
    refine wpAny_execs_nil (hq h tk dv hkb hx ?_ fun _ => rfl)
    have : vs = [] := List.eq_nil_of_length_eq_zero hl
    subst this
    exact hD
  | _, f :: fs, .cons hdb hS, h, tk, [], done, dv, Q, X, hn, hl, hv, hloc, hno, hx, hD, hz, hLs, hsz, hkb, hq => by cases hl
  | _, f :: fs, .cons hdb hS, h, tk, v :: vs, done, dv, Q, X, hn, hl, hv, hloc, hno, hx, hD, hz, hLs, hsz, hkb, hq => by
    have hfv : m f = some v := hv 0 f v rfl rfl
    have hz2 : done.length + (fs.length + 1) ≤ 900 := by simpa using hz
    refine wpAny_execs_cons (plainObj_wpAny_Assign_Attribute ?_)
    refine ldL hk (hloc f List.mem_cons_self) hL hn hfv (ldL hk hself hL hn hms ?_ (by decide)) hdb
    have next : ∀ (h' : Heap) (tk' : Nat) (dx : Addr), (∀ b o, b ≠ x → hb.get? b = some o → h'.get? b = some o) → K.In h' → h'.Ns L m → h'.get? x = some (exR C t1 (some dx)) → h'.Ns1 dx (fun y => ((f, v) :: done).lookup y) → K.lookup dx = none → dx ≠ x → dx ≠ L → hb.objs.size ≤ dx → L < h'.objs.size → hb.objs.size ≤ h'.objs.size →
        wpAny (model prog w) A (execs _ env) Q E ⟨h', g, d, tk', os⟩ := fun h' tk' dx k1 X' n' x' d' kd dx1 dxL dn L' sz' =>
      stores_run hk hL hself hms hcl hm hh sa hnx hxL hS (done := (f, v) :: done) (dv := some dx) X' n' (by simpa using hl) (fun i f' v' e1 e2 => hv (i + 1) f' v' e1 e2) (fun f' hf => hloc f' (List.mem_cons_of_mem _ hf)) (fun f' hf => hno f' (List.mem_cons_of_mem _ hf)) x' ⟨d', kd, dx1, dxL, dn⟩ (by rw [List.length_cons]; omega) L' sz' k1 fun h2 tk2 dv2 k2 x2 d2 _ => hq h2 tk2 dv2 k2 x2 (by
        rw [List.zip_cons_cons, List.reverse_cons, List.append_assoc]
        exact d2) (fun z => by cases z)
    cases dv with
    | none =>
      have hd0 : done = [] := hD
      refine set_plain X (ox := exR C t1 none) (od := none) ⟨hx, rfl, rfl, trivial⟩ sa ?_
      refine exc_osa X hx hcl hm hh (hno f List.mem_cons_self) fun h' tk' dx k dn dne hx' hn' => ?_
      have kd : K.lookup dx = none := by
        cases e : K.lookup dx with
        | none => rfl
        | some o => exact absurd (Heap.lt_size (X _ _ e)) (Nat.not_lt.mpr dn)
      have dn : h.objs.size ≤ dx := dn
      have h3 : dx < h'.objs.size := by
        obtain ⟨oD, esD, epD, hoD, hdD, _⟩ := hn'.count (Within.cons f v Within.nil)
        exact Heap.lt_size hoD
      have hs : h.objs.size ≤ h'.objs.size := Nat.le_trans dn (Nat.le_of_lt h3)
      refine next h' tk' dx (fun b o hb1 hb2 => k b o hb1 (hkb b o hb1 hb2)) (kept_but X hnx k) (ns_but hn hxL k) hx' ?_ kd dne (fun z => Nat.lt_irrefl _ (Nat.lt_of_lt_of_le hLs (by rw [← z]; exact dn))) (Nat.le_trans hsz dn) (Nat.lt_of_lt_of_le hLs hs) (Nat.le_trans hsz hs)
      have e : (fun y => if y = f then some v else none) = fun y => ((f, v) :: done).lookup y := by
        funext y
        rw [lookup_cons, hd0]
        rfl
      rw [← e]
      exact hn'
    | some dx =>
      obtain ⟨hns, kd, dne, dL, dn⟩ := hD
      have dn : hb.objs.size ≤ dx := dn
      have hw := within_self done
      obtain ⟨oD, esD, epD, hoD, hdD, _⟩ := hns.count hw
      refine set_plain X (ox := exR C t1 (some dx)) (od := some oD) ⟨hx, rfl, rfl, hoD⟩ sa ?_
      refine OEX.osa_old X hx hns hw (by rw [List.length_map]; omega) hcl hm hh (hno f List.mem_cons_self) fun h' tk' k hn' => ?_
      have e : (fun y => if y = f then some v else done.lookup y) = fun y => ((f, v) :: done).lookup y := by
        funext y
        rw [lookup_cons]
      rw [e] at hn'
      have hx' := k x _ (Ne.symm dne) hx
      have L' : L < h'.objs.size := by
        obtain ⟨oL, es, ep, e, r⟩ := hn
        exact Heap.lt_size (k L _ (Ne.symm dL) e)
      have sz' : hb.objs.size ≤ h'.objs.size := by
        have h3 : dx < h'.objs.size := by
          obtain ⟨oD, esD, epD, hoD, hdD, _⟩ := hn'.count (within_self ((f, v) :: done))
          exact Heap.lt_size hoD
        exact Nat.le_trans dn (Nat.le_of_lt h3)
      exact next h' tk' dx (fun b o hb1 hb2 => k b o (fun z => by
        have := Heap.lt_size hb2
        rw [z] at this
        exact Nat.lt_irrefl _ (Nat.lt_of_lt_of_le this dn)) (hkb b o hb1 hb2)) (kept_but X kd k) (ns_but hn (Ne.symm dL) k) hx' hn' kd dne dL dn L' sz'
end
end SxX
end PySem
end
section
set_option maxHeartbeats 2000000
namespace PySem
namespace SxX
open PySem.W PySem.Calls PyProof.Rows PySem.HandSPX
structure SxTxt (prog : Program) (K : Frag) (C fI : Addr) (ps : List Str) : Prop where
  cls : ∃ nm q N bs bm sn sub ab col dd k0 k1 k2 k3 k5, K.lookup C = some (excClassObj nm q C N bs bm true sn sub ab col dd k0 k1 k2 k3 k5 "ValueError.__new__") ∧ refsVE bm = true
  sa : findIn K (.ref C) "__setattr__" = some (some (.builtin "object.__setattr__"))
  noN : ∀ f ∈ ps, findIn K (.ref C) f = some none
  iC : findIn K (.ref C) "__init__" = some (some (.ref fI))
  tC : typeIn K (.ref fI) = some (.type "function")
  kC : keepIn K (.ref C) = true
  exC : subIn K (.ref C) (.type "BaseException") = some true
  veC : subIn K (.ref C) (.type "ValueError") = some true
  tyC : typeIn K (.ref C) = some (.type "type")
  sup : ks_superIn K C C "__init__" = some (some (.builtin "ValueError.__init__"))
  opq : nsIn K cStatics "thirdparty.any" = some none
  few : ps.length ≤ 900
  top : (prog.main.scope.names.lookup ("super" : Str)).isSome = false
  fn : ∃ (oc : Value) (od : Option Addr) (doc pm : Value) (an : Option Addr) (cda : Addr) (ct : Value) (osl : Array (Option Value)) (cc : Addr) (qual : Str) (params : Arguments) (ar : Arg) (text : Str) (kk : Nat) (q0 q1 q2 q3 q4 q5 : Pos) (stores : List Stmt) (scope : Scope)
      (ccl : Value) (cdd : Option Addr) (vs : Array Value) (ccs : Array (Option Value)) (file : Str) (tf : Tok) (cl : Value) (cld : Option Addr) (csl : Array (Option Value)),
    K.lookup fI = some ⟨oc, od, .func (ksFn "__init__" qual params (.Expr (.Call (.Attribute (.Call (.Name "super" q1) [] [] q2) "__init__" q3) [.Constant (.str text) kk q0] [] q4) q5 :: stores) scope .none .none doc pm an (.ref cda) ct cc), osl⟩ ∧ codeIn K (.ref cda) qual = true ∧ Stores stores ps ∧
    (params.posonlyargs ++ params.args).head? = some ar ∧ ar.arg = "self" ∧ K.lookup cda = some ⟨ccl, cdd, .fields vs, ccs⟩ ∧ vs[2]? = some (.str file tf) ∧ ((prog.main.file : Str) == file) = true ∧ (q3.endLine == q4.line) = true ∧ K.lookup cc = some ⟨cl, cld, .cell (some (.ref C)), csl⟩ ∧
    scope.names.lookup ("super" : Str) = some .globalImplicit ∧ scope.names.lookup ("__class__" : Str) = some .free ∧ scope.names.lookup ("self" : Str) = some .local ∧ (∀ f ∈ ps, scope.names.lookup f = some .local) ∧ scope.kind = .function ∧ scope.isCoroutine = false ∧ scope.isGenerator = false ∧ (∀ x ∈ scope.names, x.2 ≠ .cell) ∧
    (("self" : Str) :: ps).Nodup ∧
    ∀ (s : Shared) (us : List Value), us.length = ps.length + 1 → BindsTo s (ksFn "__init__" qual params (.Expr (.Call (.Attribute (.Call (.Name "super" q1) [] [] q2) "__init__" q3) [.Constant (.str text) kk q0] [] q4) q5 :: stores) scope .none .none doc pm an (.ref cda) ct cc) ⟨us, []⟩ ((("self" : Str) :: ps).zip us)
theorem eval_mcall {o : Expr} {name : Str} {apos pos : Pos} {args : List Expr} {env : Env} (hline : (apos.endLine == pos.line) = true) (hform : methodCallForm (args.length + ([] : List Keyword).length) (backTo pos (starEach args env)) (backToKw pos (keywordEach [] env)) = true) :
    eval (.Call (.Attribute o name apos) args [] pos) env = (do
      let ov ← attributeBase o name env (eval o env)
      standAt apos.atName
      let (f, first) ← holding [ov] (getMethod ov name (do return (← importBound o env).getD true))
      callWith pos f first (backTo pos (starEach args env)) []) := by
  rw [arm_eval_Call]
  have hpos : methodCallPos true o env apos pos = pure pos := by unfold methodCallPos; simp [hline]
  unfold methodCall
  rw [hform, hpos]
  simp only [pure_bind]
  rfl
theorem str1_size (v : Value) : [v].length ≤ sizeLine := by
  rw [sizeLine_eq]
  exact (by decide : 1 ≤ 16777216)
theorem zip_rev_lookup : ∀ {ps : List Str} {us : List Value}, ps.Nodup → ∀ (i : Nat) (f : Str) (v : Value), ps[i]? = some f → us[i]? = some v → (ps.zip us).reverse.lookup f = some v
  | [], us, _, i, f, v, h, _ => by simp at h
  | p :: ps, [], _, i, f, v, _, h => by simp at h
  | p :: ps, u :: us, nd, i, f, v, h1, h2 => by
    rw [List.nodup_cons] at nd
    rw [List.zip_cons_cons, List.reverse_cons, List.lookup_append]
    cases i with
    | zero =>
      simp only [List.getElem?_cons_zero, Option.some.injEq] at h1 h2
      subst h1 h2
      have hn : (ps.zip us).reverse.lookup p = none := by
        rw [List.lookup_eq_none_iff]
        intro q hq
        have hq := List.mem_reverse.mp hq
        have := (List.of_mem_zip (show (q.1, q.2) ∈ ps.zip us from hq)).1
        simp only [beq_eq_false_iff_ne, ne_eq, bne_iff_ne, Bool.not_eq_true]
        exact fun e => nd.1 (by rw [e]; exact this)
      rw [hn]
      simp [List.lookup]
    | succ j =>
      rw [zip_rev_lookup nd.2 j f v (by simpa using h1) (by simpa using h2)]
      rfl
section
variable {prog : Program} {w : World} {A : Around} {R : Result → Shared → Prop} {K : Frag} {C fI x t0 : Addr} {ps : List Str} {hb : Heap} {g : Array GenState} {d : Drawn} {tk : Nat} {os : OsState} {mg : Str → Option Value}
theorem bound_call {A : Around} {E : Value → Shared → Prop} {h : Heap} {u t : Addr} {rest : List Value} {Q : Value → Shared → Prop} {nm q : Str} {N : Addr} {bs bm : List Value} {hdct : Bool} {sn : List Str} {sub : List Value} {ab : Bool} {col : Option Bool} {dd : Option Addr} {k0 k1 k2 k3 k5 : Option Value}
    (hC : h.get? C = some (excClassObj nm q C N bs bm hdct sn sub ab col dd k0 k1 k2 k3 k5 "ValueError.__new__")) (hu : h.get? u = some (kxs_mw "ValueError.__init__" x)) (he : h.get? x = some (exR C t none)) (hz : rest.length ≤ sizeLine)
    (hq : ∀ h' t1, (∀ b o, b ≠ x → h.get? b = some o → h'.get? b = some o) → h'.get? x = some (exR C t1 none) → Q .none ⟨h', g, d, tk, os⟩) : wpAny (model prog w) A (call (.ref u) rest) Q E ⟨h, g, d, tk, os⟩ := by
  refine wpAny_call (codeAny_of_tree ?_)
  show wpAny _ A.in1 (callAny (.ref u) ⟨rest, []⟩) _ _ _
  simp only [callAny]
  refine wpAny_bind (wpAny_load hu ?_)
  simp only [kxs_mw, show (Value.type "method-wrapper" == Value.type "method" || Value.type "method-wrapper" == Value.type "builtin_function_or_method" || Value.type "method-wrapper" == Value.type "method-wrapper") = true by decide, if_true]
  refine KFB.if_so (by decide) ?_
  refine wpAny_bind (check_bound_init F.excBase_ValueError.toExcCallFacts hC he rfl ?_)
  refine wpAny_bind (wpAny_pure (wpAny_pure ?_))
  refine ⟨plainId_quiet F.excBase_ValueError.init.plain _, codeAny_builtin F.excBase_ValueError.initEntry ?_⟩
  exact exc_init_tree (cls := .ref C) (t0 := t) (dv := none) (c2 := .none) (c3 := .none) (b4 := .bool false) he hz fun h' k e _ => hq h' _ k e
theorem sx_init (T : SxTxt prog K C fI ps) {vs : List Value} (hl : vs.length = ps.length) (X : K.In hb) (hlim : hb.NoLimit) (G : hb.Ns mainGlobals mg) (hmg : mg "super" = none) (hblt : ∃ mb, hb.Ns builtinsNs mb ∧ ∀ x : Str, x ≠ "__name__" → mb x = bootBuiltins x)
    (hx : hb.get? x = some (excO C t0)) (hnx : K.lookup x = none) (hroom : A.depth < recursionLimit)
    (hq : ∀ (h' : Heap) (tk' : Nat) (t1 : Addr) (dv : Option Addr), (∀ b o, b ≠ x → hb.get? b = some o → h'.get? b = some o) → h'.get? x = some (exR C t1 dv) → Dct h' K x hb.objs.size hb.objs.size dv (ps.zip vs).reverse → (ps = [] → dv = none) → R (.ok (.ret .none)) ⟨h', g, d, tk', os⟩) :
    codeAny (model prog w) A (.call (.ref fI) ⟨.ref x :: vs, []⟩) R ⟨hb, g, d, tk, os⟩ := by
  obtain ⟨oc, od, doc, pm, an, cda, ct, osl, cc, qual, params, ar, text, kk, q0, q1, q2, q3, q4, q5, stores, scope, ccl, cdd, fvs, ccs, file, tf, cl, cld, csl, ho, hcd, hS, hp, har, hcode, hfv, hfile, hline, hcell, hks, hkc, hka, hkps, hkf, hco, hgen, hnc, nd, hbd⟩ := T.fn
  obtain ⟨nm, q, N, bs, bm, sn, sub, ab, col, dd, k0, k1, k2, k3, k5, hC, hbm⟩ := T.cls
  have hcl : clsIn K C = some { name := nm, bases := bs, mro := .ref C :: bm, ns := N, qualname := q, hasDict := true, slotNames := sn, subclasses := sub, abstract := ab, collection := col, hasDel := false } := by unfold clsIn; rw [hC] <;> rfl
  have hlen : (Value.ref x :: vs).length = ps.length + 1 := by rw [List.length_cons, hl]
  have hxs := Heap.lt_size hx
  refine ks_codeAny_call_defAt (binds := (("self" : Str) :: ps).zip (Value.ref x :: vs)) hroom (X _ _ ho) rfl hlim (codeRec_of X hcd) rfl (hbd _ _ hlen) hnc (fun y hy => ?_) (fun h₁ hns hk₁ => ?_) hco hgen hkf
  · have := (List.of_mem_zip (show (y.1, y.2) ∈ _ from hy)).1
    rcases List.mem_cons.mp this with e | e
    · rw [e]; exact hka
    · exact hkps _ e
  have hk1 : ∀ b o, hb.get? b = some o → h₁.get? b = some o := hk₁
  have hL : (hb.objs.size : Addr) ≠ x := Nat.ne_of_gt hxs
  have X1 : K.In h₁ := X.keeps hk1
  have hx1 := hk1 _ _ hx
  have hmself : ((("self" : Str) :: ps).zip (Value.ref x :: vs)).reverse.lookup ("self" : Str) = some (.ref x) := zip_rev_lookup nd 0 _ _ rfl rfl
  have hmf : ∀ (i : Nat) f v, ps[i]? = some f → vs[i]? = some v → ((("self" : Str) :: ps).zip (Value.ref x :: vs)).reverse.lookup f = some v := fun i f v e1 e2 => zip_rev_lookup nd (i + 1) f v e1 e2
  generalize hm : (fun y => ((("self" : Str) :: ps).zip (Value.ref x :: vs)).reverse.lookup y) = m at hns
  have hmself : m "self" = some (.ref x) := by rw [← hm]; exact hmself
  have hmf : ∀ (i : Nat) f v, ps[i]? = some f → vs[i]? = some v → m f = some v := fun i f v e1 e2 => by rw [← hm]; exact hmf i f v e1 e2
  obtain ⟨mb, hb1, hb2⟩ := hblt
  show wpAt _ _ _ (execs _ (ksEnv qual scope hb.objs.size fI (.ref cda) cc)) _ _ _
  refine ks_wpAt_execs_cons (ks_wpAt_Expr_any (ks_wpAt_MethodCall ?_ (eval_mcall hline (by rfl))) (by unfold interactive; simp [hkf]) (by rfl))
  obtain ⟨oD, hD1, hD2⟩ : ∃ oD : Obj, h₁.get? C = some oD ∧ ∃ cd, oD.data = .cls cd := ⟨_, X1 _ _ hC, _, rfl⟩
  obtain ⟨cdD, hD2⟩ := hD2
  refine ks_wpAt_super_base (env := ksEnv qual scope hb.objs.size fI (.ref cda) cc) hks hkc (by decide) rfl (X1 _ _ ho) rfl hp rfl (X1 _ _ hcode) rfl hfv hfile T.top ?_
  refine ks_loadName_global hkf hks (loadGlobal_builtin (env := ksEnv qual scope hb.objs.size fI (.ref cda) cc) (G.keeps hk1) hmg (hb1.keeps hk1) ((hb2 _ (by decide)).trans (by decide +kernel)) ⟨rfl, ?_⟩)
  refine wpAny_loadName_free hkf hkc rfl ⟨_, X1 _ _ hcell, rfl⟩ ?_
  refine wpAny_loadName_local (by exact hkf) (by rw [har]; exact hka) hns (by rw [har]; exact hmself) ?_
  refine ks_wpAny_isType_cls hD1 hD2 ⟨rfl, ?_⟩
  have subCC : Looks (model prog w) h₁ (isSubtype (.ref C) (.ref C)) true := by
    refine looks_mroIn X1 ?_
    unfold mroIn
    rw [hcl]
    simp
  refine ks_wpAny_call_super hD1 hD2 hx1 rfl (fun c e => by cases e) subCC fun h2 hso hk2 => ?_
  have hk02 : ∀ b o, hb.get? b = some o → h2.get? b = some o := fun b o e => hk2 b o (hk1 b o e)
  have X2 : K.In h2 := X1.keeps hk2
  have hx2 := hk2 _ _ hx1
  have hI : Looks (model prog w) h2 (isInstance (.ref x) (.type "ValueError")) true := (show W.InstAt h2 x (excO C t0) C none from ⟨hx2, rfl, rfl, trivial⟩).type.andThen (looks_subIn X2 T.veC)
  have hxC : x ≠ C := ks_ne X2 (show W.InstAt h2 x (excO C t0) C none from ⟨hx2, rfl, rfl, trivial⟩) hcl
  have hsup : alongIn K "__init__" (((Value.ref C :: bm).dropWhile (· != .ref C)).drop 1) = some (some (.builtin "ValueError.__init__")) := by
    have := T.sup
    unfold ks_superIn at this
    rw [hcl] at this
    exact this
  refine kxs_getMethod kxs_ValueError hso (looks_opaque X2 T.opq) (l₀ := .ref C :: bm) (fun A Q E s k q => wpAny_bind ((looks_clsIn X2 hcl) A _ E s k (wpAny_pure q))) rfl X2 hsup hI hxC (by decide) ?_
  have hu3 : (h2.push (kxs_mw "ValueError.__init__" x)).get? h2.objs.size = some (kxs_mw "ValueError.__init__" x) := Heap.get?_push_size _ rfl
  have hk3 : ∀ b o, h2.get? b = some o → (h2.push (kxs_mw "ValueError.__init__" x)).get? b = some o := fun b o e => Heap.get?_push_of_some _ e
  show wpAny _ _ (callWith _ (.ref h2.objs.size) [] _ []) _ _ _
  refine kxs_callWith (i := "ValueError.__init__") (x := x) (by rfl) ?_
  refine evalArgs_plain (spliced_cons (Constant_str (k := kk) (pos := q0) (spliced_nil ⟨hu3, ?_⟩)))
  have hC3 := hk3 _ _ (X2 _ _ hC)
  refine bound_call (t := t0) hC3 hu3 (hk3 _ _ hx2) (str1_size _) fun h5 t1 k5 x5 => ?_
  refine wpAt_of_wpAny ?_
  have k05 : ∀ b o, b ≠ x → hb.get? b = some o → h5.get? b = some o := fun b o e1 e2 => k5 b o e1 (hk3 b o (hk02 b o e2))
  have n5 : h5.Ns hb.objs.size m := by
    obtain ⟨oL, es, ep, e, r⟩ := hns
    exact ⟨oL, es, ep, k5 _ _ hL (hk3 _ _ (hk2 _ _ e)), r⟩
  have L5 : hb.objs.size < h5.objs.size := by
    obtain ⟨oL, es, ep, e, r⟩ := n5
    exact Heap.lt_size e
  refine stores_run (env := ksEnv qual scope hb.objs.size fI (.ref cda) cc) (hb := hb) (L := hb.objs.size) hkf rfl hka hmself hcl (show refsVE (.ref C :: bm) = true from hbm) rfl T.sa hnx hL hS (done := []) (dv := none) (kept_but X hnx k05) n5 hl hmf hkps T.noN x5 rfl (by have := T.few; rw [List.length_nil]; omega) L5 (Nat.le_of_lt L5) k05 fun h' tk' dv' k' x' d' z => ?_
  exact hq h' tk' t1 dv' k' x' (by rw [List.append_nil] at d'; exact d') z
theorem sx_made (T : SxTxt prog K C fI ps) {vs : List Value} (hl : vs.length = ps.length) (X : K.In hb) (hlim : hb.NoLimit) (G : hb.Ns mainGlobals mg) (hmg : mg "super" = none) (hblt : ∃ mb, hb.Ns builtinsNs mb ∧ ∀ x : Str, x ≠ "__name__" → mb x = bootBuiltins x) (hroom : A.depth + 1 < recursionLimit)
    (hq : ∀ (h' : Heap) (tk' : Nat) (e t1 : Addr) (dv : Option Addr), (∀ b o, hb.get? b = some o → h'.get? b = some o) → hb.objs.size ≤ e → h'.get? e = some (exR C t1 dv) → (match dv with | none => ps = [] | some dx => hb.objs.size ≤ dx ∧ dx ≠ e ∧ h'.Ns1 dx (fun y => (ps.zip vs).reverse.lookup y) ∧ ps ≠ []) → R (.ok (.ret (.ref e))) ⟨h', g, d, tk', os⟩) :
    codeAny (model prog w) A (.call (.ref C) ⟨vs, []⟩) R ⟨hb, g, d, tk, os⟩ := by
  obtain ⟨nm, q, N, bs, bm, sn, sub, ab, col, dd, k0, k1, k2, k3, k5, hC, hbm⟩ := T.cls
  have k : ∀ b o, hb.get? b = some o → ((hb.push (kdv_tup vs)).push (excO C hb.objs.size)).get? b = some o := fun b o e => Heap.get?_push_of_some _ (Heap.get?_push_of_some _ e)
  have hget : ((hb.push (kdv_tup vs)).push (excO C hb.objs.size)).get? (hb.objs.size + 1) = some (excO C hb.objs.size) := by heap_get
  have hnx : K.lookup (hb.objs.size + 1) = none := by
    cases e : K.lookup (hb.objs.size + 1) with
    | none => rfl
    | some o =>
      have z : hb.get? (hb.objs.size + 1) = some o := X _ _ e
      exact absurd (Nat.lt_of_succ_lt (Heap.lt_size z)) (Nat.lt_irrefl _)
  have hsz : vs.length ≤ sizeLine := by
    have := T.few
    rw [hl, sizeLine_eq]
    omega
  refine call_own F.excBase_ValueError (fun X => refsVE_contains X bm hbm) (X _ _ hC) (looks_findIn X T.iC) (fun self => bind_fn X self T.tC) hsz ?_
  refine sx_init (hb := (hb.push (kdv_tup vs)).push (excO C hb.objs.size)) T hl (X.keeps k) (hlim.keeps k) (G.keeps k) hmg (by
    obtain ⟨mb, h1, h2⟩ := hblt
    exact ⟨mb, h1.keeps k, h2⟩) hget hnx (by show A.depth + 1 < recursionLimit; exact hroom) fun h' tk' t1 dv k' hx hD hn => ?_
  have old : ∀ b o, hb.get? b = some o → h'.get? b = some o := fun b o e => k' b o (Nat.ne_of_lt (Nat.lt_succ_of_lt (Heap.lt_size e))) (k b o e)
  refine ⟨rfl, hq h' tk' (hb.objs.size + 1) t1 dv old (Nat.le_succ _) hx ?_⟩
  cases dv with
  | none =>
    have hD : (ps.zip vs).reverse = [] := hD
    have hD := List.reverse_eq_nil_iff.mp hD
    rcases List.zip_eq_nil_iff.mp hD with e | e
    · exact e
    · rw [e] at hl
      exact List.eq_nil_of_length_eq_zero hl.symm
  | some dx =>
    obtain ⟨hns, kd, dne, dL, dn⟩ := hD
    have z : hb.objs.size ≤ dx := by
      refine Nat.le_trans ?_ dn
      rw [Heap.size_push, Heap.size_push]
      omega
    exact ⟨z, dne, hns, fun e => by cases hn e⟩
end
end SxX
end PySem
end
section
set_option maxHeartbeats 2000000
set_option autoImplicit true
namespace L2
open PySem PySem.Spec PyProof.Rows PySem.SxX
def tSx (C : Addr) (ps : List Str) (vs : List V) : Hp → XK → Prop := fun H Q => vs.length = ps.length ∧ (ps = [] → Q (.ref C) none H) ∧ (ps ≠ [] → ∀ d, H d = none → Q (.ref C) (some d) (upd H d (.xd (ps.zip vs).reverse)))
theorem relO_app {f : Str} {l l' : List (Str × V)} {m m' : List (Str × Value)} (h1 : RelO (l.lookup f) (m.lookup f)) (h2 : RelO (l'.lookup f) (m'.lookup f)) : RelO ((l ++ l').lookup f) ((m ++ m').lookup f) := by
  rw [List.lookup_append, List.lookup_append]
  cases e1 : l.lookup f with
  | none =>
    cases e2 : m.lookup f with
    | none => exact h2
    | some u => rw [e1, e2] at h1; exact h1.elim
  | some v =>
    cases e2 : m.lookup f with
    | none => rw [e1, e2] at h1; exact h1.elim
    | some u => rw [e1, e2] at h1; exact h1
theorem relO_one {f p : Str} {v : V} {u : Value} (r : RelV v u) : RelO (List.lookup f [(p, v)]) (List.lookup f [(p, u)]) := by
  rw [lookup_put, lookup_cons]
  by_cases e : f = p
  · rw [if_pos e, if_pos e]; exact r
  · rw [if_neg e, if_neg e]; trivial
theorem vals_rev : ∀ {ps : List Str} {vs : List V} {us : List Value}, Vals vs us → ∀ f, RelO ((ps.zip vs).reverse.lookup f) ((ps.zip us).reverse.lookup f)
  | [], _, _, _, f => trivial
  | p :: ps, [], _, .nil, f => trivial
  | p :: ps, v :: vs, u :: us, .cons r t, f => by
    rw [List.zip_cons_cons, List.zip_cons_cons, List.reverse_cons, List.reverse_cons]
    exact relO_app (vals_rev t f) (relO_one r)
section
variable {X : Cx} {C fI : Addr} {ps : List Str} {x : Str} {p pos : Pos} {k : Nat}
theorem sx_mkP {pins : List (Addr × Obj)} {σ : St} {H1 : Hp} {Q : XK} {hp : Heap} {g : Array GenState} {dr : Drawn} {tk : Nat} {os : OsState} {vs : List V} {us : List Value} (T : SxTxt X.prog X.K C fI ps) (gS : X.mg "super" = none) (hr : Room k X.A) (I1 : Inv X pins σ H1 ⟨hp, g, dr, tk, os⟩) (r : Vals vs us) (q : tSx C ps vs H1 Q) :
    wpAny (model X.prog X.w) X.A (call (.ref C) us) (MkP X pins σ Q) X.xe ⟨hp, g, dr, tk, os⟩ := by
  have hlim := I1.nolimit
  obtain ⟨hl, q0, q1⟩ := q
  have hlu : us.length = ps.length := by rw [← r.length, hl]
  refine wpAny_call (sx_made T hlu I1.kIn hlim (I1.mod.glob.keeps I1.bk) gS (by
    obtain ⟨mb, h1, h2⟩ := I1.mod.blt
    exact ⟨mb, h1.keeps I1.bk, h2⟩) (by have := hr.dp; omega) fun h' tk' e t1 dv keep new hoe hD => ?_)
  show MkP X pins σ Q (.ref e) ⟨h', g, dr, tk', os⟩
  obtain ⟨G', g1, g2⟩ := restrict h' fun b => decide (b ≠ e)
  have gk : ∀ b, b ≠ e → G'.get? b = h'.get? b := fun b hb => g1 b (decide_eq_true hb)
  have ge : G'.get? e = none := g2 e (by simp)
  have old : ∀ b o, hp.get? b = some o → G'.get? b = some o := fun b o q => (gk b (Nat.ne_of_lt (Nat.lt_of_lt_of_le (Heap.lt_size q) new))).trans (keep b o q)
  have back : ∀ b o, G'.get? b = some o → h'.get? b = some o := fun b o q => by
    by_cases hb : b = e
    · rw [hb, ge] at q; cases q
    · exact (gk b hb).symm.trans q
  cases dv with
  | none =>
    have e0 : ps = [] := hD
    have J : Inv X pins σ H1 ⟨G', g, dr, tk', os⟩ := I1.kept old
    exact ⟨e, _, _, ⟨G', g, dr, tk', os⟩, H1, .ref C, none, rfl, J, back, ge, hoe, ⟨rfl, rfl⟩, rfl, rfl, I1.hok.fresh new, rfl, I1.bare, raises_own T.exC T.tyC, q0 e0⟩
  | some d =>
    obtain ⟨dbig, dne, hns, ne⟩ := hD
    have ob : ObjOk X.prog X.w (upd H1 d (.xd (ps.zip vs).reverse)) G' d (.xd (ps.zip vs).reverse) := ⟨_, hns.at (fun o q => (gk d dne).trans q), fun f => vals_rev r f⟩
    have J : Inv X pins σ (upd H1 d (.xd (ps.zip vs).reverse)) ⟨G', g, dr, tk', os⟩ := I1.laid (t' := tk') old dbig ob
    exact ⟨e, _, _, ⟨G', g, dr, tk', os⟩, _, .ref C, some d, rfl, J, back, ge, hoe, ⟨rfl, rfl⟩, rfl, rfl, by rw [upd_ne (Ne.symm dne)]; exact I1.hok.fresh new, rfl, I1.bare, raises_own T.exC T.tyC, q1 ne d (I1.hok.fresh dbig)⟩
def tMkSx (C : Addr) (ps : List Str) (ta : TA) : St → Hp → XK → Prop := fun σ H Q => ta σ H fun vs H1 => tSx C ps vs H1 Q
theorem pmk_sx {e : Expr} {es : List Expr} {ta : TA} (T : SxTxt X.prog X.K C fI ps) (gC : X.mg x = some (.ref C)) (gS : X.mg "super" = none) (hr : Room k X.A) (ha : PA X (e :: es) ta) (hg : Gl X x := by rfl) (hdb : (x == ("__debug__" : Str)) = false := by decide)
    (he : starEach (e :: es) X.env = (false, eval e X.env) :: starEach es X.env := by rfl) (hpl : (backTo pos (starEach es X.env)).any (·.1) = false := by rfl) :
    PMk X (.Call (.Name x p) (e :: es) [] pos) (tMkSx C ps ta) := by
  intro pins s σ H Q I h
  refine wpAny_Call_Name_kw (ld_glob I hg gC ?_ hdb)
  refine PySem.W.callWith_K (h₀ := X.base) I.ok.mod.kin T.kC (thn (ha.run pos pins s σ H _ I h) fun us s1 hh => ?_) he hpl
  obtain ⟨vs, H1, I1, r1, q1⟩ := hh
  refine ⟨I1.kIn, ?_⟩
  obtain ⟨hp, g, dr, tk, os⟩ := s1
  exact sx_mkP T gS hr I1 r1 q1
end
end L2
end
section
set_option maxHeartbeats 4000000
set_option autoImplicit true
namespace L3
open PySem PySem.Spec PyProof.Rows L2 PySem.SxX
def exC (C : Addr) (ps : List Str) (pds : List Pd) (cls : Value) (d : Option Addr) (H : Hp) : Prop :=
  cls = .ref C ∧ ((ps = [] ∧ d = none) ∨ (ps ≠ [] ∧ ∃ dd vs, d = some dd ∧ H dd = some (.xd (ps.zip vs).reverse) ∧ Paired (fun p v => Pd.pr p H v) pds vs))
theorem exC_mono {C : Addr} {ps : List Str} {pds : List Pd} {cls : Value} {d : Option Addr} {H H' : Hp} (f : Fzs H H') (h : exC C ps pds cls d H) : exC C ps pds cls d H' := by
  obtain ⟨e, h | ⟨ne, dd, vs, ed, hd, p⟩⟩ := h
  · exact ⟨e, .inl h⟩
  · exact ⟨e, .inr ⟨ne, dd, vs, ed, f _ _ trivial hd, paired_mono (fun p v q => p.mono f q) p⟩⟩
theorem xOut.mono {ε : Type} {Kx : Xk ε} {F : Fm} {Δx : Δs} {Nx : SS → Hp → Prop} {Wx : WX} {e : ε} {H H1 : Hp} (h : xOut Kx F Δx Nx Wx e H) (f : Fzs H H1) : xOut Kx F Δx Nx Wx e H1 := fun cls d σ H' f' => h cls d σ H' (f.trans f')
def fX {ε τ : Type} (Kx : Xk ε) (Tf : Fn τ) (F : Fm) (Δx : Δs) (Nx : SS → Hp → Prop) (Wx : WX) : Fn (Except ε τ) := ⟨fun H g D => match g with | .ok t => Tf.fin H t D | .error e => xOut Kx F Δx Nx Wx e H, fun {H H' g D} h f => by
  cases g with
  | ok t => exact Tf.mono h f
  | error e => exact xOut.mono h f⟩
theorem ins_X {ε τ : Type} {Kx : Xk ε} {Tf : Fn τ} {F : Fm} {Δx : Δs} {Nx : SS → Hp → Prop} {Wx : WX} (h : Ins Tf) : Ins (fX Kx Tf F Δx Nx Wx) := fun H g D n q => by
  cases g with
  | ok t => exact h H t D n q
  | error e => exact q
theorem ex_X {ε τ : Type} {Kx : Xk ε} {Tf : Fn τ} {F : Fm} {Δx : Δs} {Nx : SS → Hp → Prop} {Wx : WX} : Ex (fX Kx Tf F Δx Nx Wx) (Except.error (α := τ)) Kx F Δx Nx Wx := fun _ _ _ h => h
theorem ex_B {ε S τ : Type} {Kx : Xk ε} {Tf : Fn τ} {ιx : ε → τ} {C : S → Cxt} {F : Fm} {Δx : Δs} {Nx : SS → Hp → Prop} {Wx : WX} (h : Ex Tf ιx Kx F Δx Nx Wx) : Ex (fB F C Tf) (fun e => Bo.tm (ιx e)) Kx F Δx Nx Wx := fun H e D q => h H e D q
section
variable {X : Cx} {W : Bool} {F : Fm} {Γ : Gm} {Δ : Δs} {γ ε : Type} {Kx : Xk ε} {N : Fn γ} {ιx : ε → γ} {Δx : Δs} {Nx : SS → Hp → Prop} {Wx : WX} {k : Nat} {C fI : Addr} {ps : List Str} {x : Str} {p pos pos2 : Pos}
theorem s_raise {e : Expr} {es : List Expr} {β : Type} {T : Option γ} {pds : β → List Pd} {er : β → ε} {Δ' : β → Δs} (tk : Takes X Wx) (hN : Ex N ιx Kx F Δx Nx Wx) (Tx : SxTxt X.prog X.K C fI ps) (gC : X.mg x = some (.ref C)) (gS : X.mg "super" = none) (hr : Room k X.A)
    (ha : PA X (e :: es) (tAr true F Γ Δ T (fun b => some (ιx (er b))) pds Δ')) (hx : ∀ b cls d H, exC C ps (pds b) cls d H → Kx.ok (er b) cls d H) (hl : ∀ b, (pds b).length = ps.length) (ne : ps ≠ []) (hΔ : ∀ b, Δx.Sublist (Δ' b)) (hNx : ∀ σ H, Nm Γ σ H → Nx σ H) (hc : X.calm = true := by rfl) (hg : Gl X x := by rfl) (hdb : (x == ("__debug__" : Str)) = false := by decide)
    (he : starEach (e :: es) X.env = (false, eval e X.env) :: starEach es X.env := by rfl) (hpl : (backTo pos (starEach es X.env)).any (·.1) = false := by rfl) :
    PSs X [.Raise (some (.Call (.Name x p) (e :: es) [] pos)) none pos2] (tS F Γ Δ N T) :=
  (pss_one (ps_raise hc tk (pmk_sx Tx gC gS hr ha hg hdb he hpl))).wk fun D σ H ⟨ok, g, e, f⟩ => ⟨ok, g, e, fun b vs H1 kb st ok1 pv => by
    have eg : ιx (er b) = g := Option.some.inj kb
    rw [← eg] at f
    refine ⟨by rw [← paired_len pv, hl], fun z => absurd z ne, fun _ d nd => ?_⟩
    have gr : Gr H1 (upd H1 d (.xd (ps.zip vs).reverse)) := Gr.new nd
    exact hN _ _ D f _ _ σ _ (st.fz.trans gr.fzs) ((ok1.hk.gr gr).less (hΔ b)) (hNx _ _ (ok1.nm.mono gr.fzs)) (hx b _ _ _ ⟨rfl, .inr ⟨ne, d, vs, rfl, upd_same, paired_mono (fun p v q => p.mono gr.fzs q) pv⟩⟩)⟩
def tOX {β : Type} (W : Bool) (F : Fm) (Γ : Gm) (Δ : Δs) (T : Option γ) (k : β → Option γ) (E : β → Od) (Δ' : β → Δs) (ιx : ε → γ) (Kx : Xk ε) (Wx : WX) : TE := fun σ H Q =>
  Ok F Γ Δ σ H ∧ ∃ g, T = some g ∧ (∀ b v H', k b = some g → St W H H' → OkN W F Γ H v (E b) (Δ' b) σ H' → Q v H') ∧ ∀ e, g = ιx e → ∀ cls d H', St W H H' → Ok F Γ Δ σ H' → Kx.ok e cls d H' → Wx cls d σ H'
def xE {ε : Type} (Kx : Xk ε) (e : ε) (H : Hp) (E : XK) : Prop := ∀ cls d H', Hk ⟨H, []⟩ [] H' → Kx.ok e cls d H' → E cls d H'
def SpXo {α ρ : Type} (A : α → List Pd) (Mf : α → Option (Except ε ρ)) (Ro : ρ → Od) (Kx : Xk ε) : Sp := fun vs H Q E => ∃ a : α, Paired (fun p v => Pd.pr p H v) (A a) vs ∧ ∃ g, Mf a = some g ∧ match g with | .ok r => RO ⟨H, []⟩ (fun _ => []) Ro r Q | .error e => xE Kx e H E
def wE (E : XK) : WX := fun cls d _ H => E cls d H
theorem fn_Xo {P : Program} {w : World} {K : PySem.W.Frag} {mg : Str → Option Value} {base : Heap} {x qual : Str} {params : Arguments} {body : List Stmt} {scope : Scope} {dvs : List V} {kws : List (Str × V)} {f : Addr} {fd : FuncData} {Nn ps : List Str} {k n : Nat} {α ρ : Type} {A : α → List Pd} {Mf : α → Option (Except ε ρ)} {Ro : ρ → Od}
    (FD : FunD K x qual params body scope dvs kws f fd) (S : FnScope Nn ps scope) (hn : ∀ a, (A a).length = n) (hl : n = ps.length)
    (hb : ∀ (cdv : Value) (Ar : Around) (outer : List Env) (s : Shared) (H : Hp) (E : XK) (hr : Room k (Ar.deeper (envOfC qual scope s.heap.objs.size f cdv))) (a : α), Takes (cxOf (L2.CX P w) P w K mg base Nn qual scope f cdv Ar outer s H E) (wE E) → PSs (cxOf (L2.CX P w) P w K mg base Nn qual scope f cdv Ar outer s H E) body
      (tS ⟨H, []⟩ ((A a).map some ++ List.replicate (Nn.length - n) none) [] (fX Kx (fF (RO ⟨H, []⟩ (fun _ => []) Ro)) ⟨H, []⟩ [] (fun _ _ => True) (wE E)) (Mf a))) : FnOk P w K mg base (L2.CX P w) (k + 1) f fd ps (SpXo A Mf Ro Kx) := by
  refine FD.ok S (fun vs H Q E h => ?_) (fun cdv Ar outer s H vs Q E hr h => ?_)
  · obtain ⟨a, pv, _⟩ := h
    rw [← paired_len pv, hn, hl]
  · obtain ⟨a, pv, g, hM, fin⟩ := h
    refine ⟨_, hb cdv Ar outer s H E hr a (takes_of rfl rfl rfl rfl), ok_start (Δ := []) (by rw [← paired_len pv, hn]) pv (fun _ h => nomatch h) List.nodup_nil (fun _ _ h => nomatch h), g, hM, ?_⟩
    cases g with
    | ok r => exact fin
    | error e => exact fun cls d σ H' _ hk _ q => fin cls d H' hk q
def okx {ε ρ : Type} : Except ε ρ → Option ρ
  | .ok r => some r
  | .error _ => none
def xK {ε ρ γ : Type} (ιx : ε → γ) (k : ρ → Option γ) : Except ε ρ → Option γ
  | .ok r => k r
  | .error e => some (ιx e)
section
variable {f : Addr} {fd : FuncData} {kk : Nat} {α ρ β : Type} {A : α → List Pd} {Mf : α → Option (Except ε ρ)} {xs : β → α} {T : Option γ} {e : Expr} {es : List Expr}
theorem x_Xo {Ro : ρ → Od} {kc : β × ρ → Option γ} (G : FnOk X.prog X.w X.K X.mg X.base (L2.CX X.prog X.w) kk f fd ps (SpXo A Mf Ro Kx)) (tk : Takes X Wx) (hr : Room kk X.A) (hm : X.mg x = some (.ref f)) (hk : PySem.W.keepIn X.K (.ref f) = true) (hb : Binds X.K fd ps [])
    (ha : PA X (e :: es) (tAr W F Γ Δ T (fun b => (Mf (xs b)).bind (xK ιx fun r => kc (b, r))) (fun b => A (xs b)) fun _ => Δ)) (hg : Gl X x := by rfl) (hdb : (x == ("__debug__" : Str)) = false := by decide)
    (he : starEach (e :: es) X.env = (false, eval e X.env) :: starEach es X.env := by rfl) (hpl : (backTo pos (starEach es X.env)).any (·.1) = false := by rfl) :
    PE X (.Call (.Name x p) (e :: es) [] pos) (tOX W F Γ Δ T kc (fun b => Ro b.2) (fun _ => Δ) ιx Kx Wx) :=
  (pe_callS G hr hg hm hk hb (fun σ => passAt tk σ) ha hdb he hpl).wk fun σ H Q ⟨ok, g, e, q, qx⟩ => ⟨ok, g, e, fun b vs H1 kb st ok1 pv => by
    obtain ⟨w, ew, kw⟩ := bind_some kb
    refine ⟨xs b, pv, w, ew, ?_⟩
    cases w with
    | ok r =>
      intro v H' hk
      obtain ⟨ok', st'⟩ := call_o0 (W := W) ok1 hk
      exact q (b, r) v H' kw (st.trans st') (ok'.since st)
    | error er =>
      intro cls d H' hk hx
      obtain ⟨ok', st'⟩ := call_f0 (W := W) ok1 hk
      exact qx er (Option.some.inj kw).symm cls d H' (st.trans st') ok' hx⟩
theorem takes_no : Takes X (fun _ _ _ _ => False) := fun _ _ ⟨_, _, _, _, _, _, _, _, _, _, _, _, _, _, _, _, w⟩ => w.elim
theorem pass_no : Passes (L2.CX X.prog X.w) X (fun _ _ _ => False) := passes_call takes_no fun _ _ _ _ h => h
theorem x_Zo {Ro : ρ → Od} {kc : β × ρ → Option γ} {Δ1 : β → Δs} (G : FnOk X.prog X.w X.K X.mg X.base (L2.CX X.prog X.w) kk f fd ps (SpXo A Mf Ro Kx)) (hr : Room kk X.A) (hm : X.mg x = some (.ref f)) (hk : PySem.W.keepIn X.K (.ref f) = true) (hb : Binds X.K fd ps [])
    (ha : PA X (e :: es) (tAr W F Γ Δ T (fun b => ((Mf (xs b)).bind okx).bind fun r => kc (b, r)) (fun b => A (xs b)) Δ1)) (hg : Gl X x := by rfl) (hdb : (x == ("__debug__" : Str)) = false := by decide)
    (he : starEach (e :: es) X.env = (false, eval e X.env) :: starEach es X.env := by rfl) (hpl : (backTo pos (starEach es X.env)).any (·.1) = false := by rfl) :
    PE X (.Call (.Name x p) (e :: es) [] pos) (tO W F Γ Δ T kc (fun b => Ro b.2) (fun b => Δ1 b.1)) :=
  (pe_call G hr hg hm hk hb .nil pass_no ha hdb he hpl).wk fun σ H Q ⟨ok, g, e, q⟩ => ⟨ok, g, e, fun b vs H1 kb st ok1 pv => by
    obtain ⟨r, er, kr⟩ := bind_some kb
    obtain ⟨w, ew, kw⟩ := bind_some er
    rw [List.append_nil]
    refine ⟨xs b, pv, w, ew, ?_⟩
    cases w with
    | ok r' =>
      cases kw
      intro v H' hk
      obtain ⟨ok', st'⟩ := call_o0 (W := W) ok1 hk
      exact q (b, _) v H' kr (st.trans st') (ok'.since st)
    | error er => cases kw⟩
end
section
variable {rest : List Stmt} {β : Type} {T : Option γ} {kc : β → Option γ} {Δ' : β → Δs} {e : Expr}
theorem s_exprOX {E : β → Od} (he : PE X e (tOX true F Γ Δ T kc E Δ' ιx Kx Wx)) (hN : Ex N ιx Kx F Δx Nx Wx) (hΔ : Δx.Sublist Δ) (hNx : ∀ σ H, Nm Γ σ H → Nx σ H) (hr : ∀ b, PSs X rest (tS F Γ (Δ' b) N (kc b))) (hs : swapsWith e none pos.line X.env = pure false := by rfl) :
    PSs X (.Expr e pos :: rest) (tS F Γ Δ N T) :=
  (pss_cons (ps_expr he hs) (pss_ex hr)).wk fun D σ H ⟨ok, g, e, f⟩ => ⟨ok, g, e, fun b v H' kb fz ok' => ⟨b, ok'.ok.less (List.sublist_cons_self _ _), g, kb, N.mono f fz.fz⟩, fun er eg cls d H' st ok' hx => by
    subst eg
    exact hN _ _ D f cls d σ H' st.fz (ok'.hk.less hΔ) (hNx _ _ ok'.nm) hx⟩
theorem s_letOX {i : Nat} {y : Str} {pos' : Pos} {α : Type} {val : β → α} {k2 : β → α → Option γ} (D0 : α → Od) (nd : X.N.Nodup) (he : PE X e (tOX true F Γ Δ T (fun b => (some (val b)).bind (k2 b)) (fun b => D0 (val b)) Δ' ιx Kx Wx)) (hN : Ex N ιx Kx F Δx Nx Wx) (hΔ : Δx.Sublist Δ) (hNx : ∀ σ H, Nm Γ σ H → Nx σ H)
    (hr : ∀ b a v, PSs X rest (tS F (Γ.set i (some (pV v))) (⟨v, D0 a, none⟩ :: Δ' b) N (k2 b a))) (hi : X.N[i]? = some y := by rfl) (hx : Loc X.env.scope y := by first | exact .inl rfl | exact .inr rfl)
    (hs : swapsWith e (some (.Name y pos')) pos.line X.env = pure false := by rfl) (hf : X.fn y = true ∨ X.env.scope.names.lookup y = some .local := by first | exact .inl rfl | exact .inr rfl | assumption) :
    PSs X (.Assign [.Name y pos'] e pos :: rest) (tS F Γ Δ N T) :=
  (pss_cons (ps_set nd hi hx he hs hf) (pss_ex fun b => pss_ex fun v => hr b (val b) v)).wk fun D σ H ⟨ok, g, e, f⟩ => ⟨ok, g, e, fun b v H' kb fz ok' => ⟨b, v, ok'.ok.set rfl, g, kb, N.mono f fz.fz⟩, fun er eg cls d H' st ok' hx => by
    subst eg
    exact hN _ _ D f cls d σ H' st.fz (ok'.hk.less hΔ) (hNx _ _ ok'.nm) hx⟩
end
end
end L3
end
section
set_option maxHeartbeats 4000000
set_option autoImplicit true
namespace L3
open PySem PySem.Spec PyProof.Rows L2 PySem.SxX
def pExc {ε : Type} (Kx : Xk ε) (a : Addr) (cls : Value) (d : Option Addr) (e : ε) : Pd := ⟨fun H v => v = .ref a ∧ Kx.ok e cls d H, fun f h => ⟨h.1, Kx.mono f h.2⟩⟩
def tryK {S τ ε γ : Type} (k2 : S → Option γ) (ι : τ → γ) (m : ε → Bool) (TS : ε → Option (Bo S τ)) (Ke : ε → Option γ) : Bo S (Except ε τ) → Option γ
  | .nx s => k2 s
  | .tm (.ok t) => some (ι t)
  | .tm (.error e) => if m e = true then (TS e).bind (boK k2 ι) else Ke e
def Ends.un (D : Ends) (i : Nat) : Ends := { nx := fun σ' H' => D.nx (σ'.set i none) H', rt := D.rt, bk := fun σ' H' => D.bk (σ'.set i none) H', ct := fun σ' H' => D.ct (σ'.set i none) H' }
def Uns {τ : Type} (i : Nat) (Tf : Fn τ) : Prop := ∀ H t D, Tf.fin H t D → Tf.fin H t (Ends.un D i)
theorem uns_F {ρ : Type} {i : Nat} (R : Rt ρ) : Uns i (fF R) := fun _ _ _ h => h
theorem Ok.unset {F : Fm} {Γ : Gm} {Δ : Δs} {σ : SS} {H : Hp} {i : Nat} (k : Ok F Γ Δ σ H) (h : Γ[i]? = some none) : Ok F Γ Δ (σ.set i none) H :=
  ⟨k.hk, by rw [List.length_set]; exact k.len, fun j q e => by
    have hj : j ≠ i := fun z => by rw [z, h] at e; cases e
    rw [List.getElem?_set_ne (fun z => hj z.symm)]
    exact k.gam j q e⟩
section
variable {X : Cx} {W : Bool} {F : Fm} {Γ : Gm} {Δ : Δs} {γ ε : Type} {Kx : Xk ε}
theorem s_try_as {S τ : Type} {N : Fn γ} {Tf : Fn τ} {ι : τ → γ} {i : Nat} {x n : Str} {c : Value} {body suite rest : List Stmt} {b₀ : Stmt} {np pos pos' : Pos} {Wout : WX} {T : Option γ} {TB : Option (Bo S (Except ε τ))} {k2 : S → Option γ} {m : ε → Bool} {TS : ε → Option (Bo S τ)} {Ke : ε → Option γ}
    (C : S → Cxt) (Γx : Gm) (Δx : Δs) (hN : X.N.Nodup) (hc : Names X x c) (tk : Takes X Wout) (hm : ∀ e cls d H, Kx.ok e cls d H → PySem.W.exmOne X.K cls c = some (m e))
    (hT : T = TB.bind (tryK k2 ι m TS Ke))
    (hb : ∀ (W : WX) (pn : List (Addr × Obj)) (xe : Value → Shared → Prop), Takes (X.tr pn xe) W → PassesOwn (model X.prog X.w) X.A X.env xe → PSs (X.tr pn xe) body (tS F Γ Δ (fB F C (fX Kx Tf F Δx (Nm Γx) W)) TB))
    (hsu : ∀ (a : Addr) (oe : Obj) (cls : Value) (d : Option Addr) (pn : List (Addr × Obj)), Zc cls d oe → (∃ vs, oe.data = .fields vs) → ∀ e, PSs (X.suite a ((a, oe) :: pn)) (b₀ :: suite) (tS F (Γx.set i (some (pExc Kx a cls d e))) Δx (fB F C Tf) (TS e)))
    (hr : ∀ s, PSs X rest (tS F (C s).1 (C s).2 N (k2 s))) (hι : ∀ H t D, N.fin H (ι t) D → Tf.fin H t D) (hI : Ins Tf) (hU : Uns i Tf) (hCi : ∀ s, (C s).1[i]? = some none) (hE : ∀ e g H D, m e = false → Ke e = some g → N.fin H g D → xOut Kx F Δx (Nm Γx) Wout e H)
    (hs : X.stack = X.env :: X.outer := by rfl) (hf : X.env.frame = some X.env.locals := by rfl) (hi : X.N[i]? = some n := by rfl) (hln : X.env.kindOf n = some .local := by rfl) :
    PSs X (.Try body [.ExceptHandler (some (.Name x np)) (some n) (b₀ :: suite) pos'] [] [] pos :: rest) (tS F Γ Δ N T) :=
  (pss_cons (ps_try_as hs hf hN hi hln hc tk (tb := fun W => tS F Γ Δ (fB F C (fX Kx Tf F Δx (Nm Γx) W)) TB) hb (ts := fun a cls d D σ H => ∃ e, tS F (Γx.set i (some (pExc Kx a cls d e))) Δx (fB F C Tf) (TS e) D σ H) fun a oe cls d pn hz hf => pss_ex fun e => hsu a oe cls d pn hz hf e) (pss_ex hr)).wk fun D σ H ⟨ok, g, e, f⟩ => by
    rw [hT] at e
    obtain ⟨o, eo, ko⟩ := bind_some e
    refine ⟨ok, o, eo, ?_⟩
    cases o with
    | nx s => exact fun σ' H' fz ok' => ⟨s, ok', g, ko, N.mono f fz⟩
    | tm t =>
      cases t with
      | ok t =>
        have eg : ι t = g := Option.some.inj ko
        subst eg
        exact hI _ _ _ _ (hι _ _ D f)
      | error er =>
        intro cls d σ' H' fz hk nm hx
        have ko : (if m er = true then (TS er).bind (boK k2 ι) else Ke er) = some g := ko
        refine ⟨m er, hm er cls d H' hx, fun hmt a na => ?_, fun hmf => ?_⟩
        · rw [if_pos hmt] at ko
          obtain ⟨o2, eo2, ko2⟩ := bind_some ko
          refine ⟨er, (show Ok F Γx Δx σ' H' from ⟨hk, nm⟩).set (p := pExc Kx a cls d er) ⟨rfl, hx⟩, o2, eo2, ?_⟩
          cases o2 with
          | nx s => exact fun σ2 H2 fz2 ok2 => ⟨s, ok2.unset (hCi s), g, ko2, N.mono f (fz.trans fz2)⟩
          | tm t =>
            have eg : ι t = g := Option.some.inj ko2
            subst eg
            exact hU _ _ _ (hI _ _ _ _ (hι _ _ D (N.mono f fz)))
        · rw [hmf, if_neg Bool.false_ne_true] at ko
          exact hE er g H D hmf ko f cls d σ' H' fz hk nm hx
end
def rIsX (K : PySem.W.Frag) (a : Addr) (cls : Value) (d : Option Addr) : List V → Hp → VK → Prop := fun xs H Q => ∃ (D : Addr) (c : V) (b : Bool), xs = [.ref a, c] ∧ cls = .ref D ∧ ExcC K D ∧ (d = none ∨ ∃ dd fs, d = some dd ∧ H dd = some (.xd fs)) ∧
  ((∃ cv, ClsV c cv ∧ PySem.W.kitOne K (.ref D) cv = some b) ∨ ∃ tp cs us, c = .ref tp ∧ H tp = some (.tup cs) ∧ Paired ClsV cs us ∧ PySem.W.kitAny K (.ref D) us = some b) ∧ Q (.bl b) H
theorem call_isX {X : Cx} {a : Addr} {oe : Obj} {cls : Value} {d : Option Addr} {pn : List (Addr × Obj)} (hz : Zc cls d oe) (hf : ∃ vs, oe.data = .fields vs) : CallR (X.suite a ((a, oe) :: pn)) (.builtin "isinstance") (rIsX X.K a cls d) := by
  intro pins s σ H xs us Q I r h
  obtain ⟨D, c, b, rfl, rfl, C, hd, hk, q⟩ := h
  obtain ⟨u1, u2, rfl, r1, r2⟩ := vals2 r
  cases (show u1 = Value.ref a from r1)
  obtain ⟨hget, _⟩ := I.pin (a, oe) (List.mem_append.mpr (.inl List.mem_cons_self))
  obtain ⟨vs, hv⟩ := hf
  obtain ⟨od, J⟩ : ∃ od, PySem.W.InstAt s.heap a oe D od := by
    rcases hd with e | ⟨dd, fs, e, ed⟩
    · refine ⟨none, hget, hz.1, by unfold PySem.W.notCls; rw [hv] <;> rfl, by rw [hz.2, e]; exact trivial⟩
    · obtain ⟨mA, hns, _⟩ := (show ObjOk X.prog X.w H s.heap dd (.xd fs) from I.hok dd _ ed)
      obtain ⟨oD, ho, _⟩ := lookIn_ns hns
      exact ⟨some oD, hget, hz.1, by unfold PySem.W.notCls; rw [hv] <;> rfl, by rw [hz.2, e]; exact ho⟩
  have Z := PySem.W.kitx_exc (K := X.K) (x := a) (ox := oe) (od := od) (C := D) (by obtain ⟨cd, hc, _⟩ := PySem.W.any_some C.hd; rw [hc]; rfl) C.hg C.hk C.hs C.ha C.hn C.ht C.hm
  rcases hk with ⟨cv, k, e⟩ | ⟨tp, cs, us, rfl, hT, k, e⟩
  · cases k.eq r2
    exact PySem.W.kia_one Z I.kIn J e (fun z => nomatch z) fun tk => ⟨.bl b, H, I.kept (t' := tk) fun _ _ z => z, rfl, q⟩
  · cases (show u2 = Value.ref tp from r2)
    obtain ⟨_, its, rv, o, h1, h2, n, h3⟩ := (show ObjOk X.prog X.w H s.heap tp (.tup cs) from I.hok tp _ hT)
    have e3 := ClsV.all k rv
    subst e3
    obtain ⟨oc, od, dt, sl⟩ := o
    simp only at h2 h3
    subst h2 h3
    exact PySem.W.kia_tup Z I.kIn J h1 e (fun z => nomatch z) fun tk => ⟨.bl b, H, I.tok tk, rfl, q⟩
def FV.str? : FV → Option Str
  | .str x => some x
  | _ => none
def fieldTab : List (Str × List Str) := [("UnknownName", ["name"]), ("RepeatedName", ["name"]), ("UnknownValue", ["name", "value"]), ("RepeatedValue", ["value"]), ("UnknownKey", ["key"]), ("RepeatedKey", ["key"]), ("EmptyRule", []), ("BadRow", ["row"]), ("BadBounds", ["low", "high"]), ("BadNumber", ["number"]), ("BadStep", ["position"]),
  ("NoMark", ["number"]), ("NotStruck", ["name", "value"]), ("BadOrder", ["names"]), ("NotBare", ["found"]), ("NoClash", []), ("HoldsAnswer", ["answer"]), ("BadLine", ["number", "fault"]), ("UnknownLine", ["number"]), ("BadText", ["number"]), ("NothingToUndo", []), ("NothingToRedo", []), ("UnknownStep", ["number"]), ("BadDeed", ["position"])]
def fieldsOf (c : Str) : List Str := (fieldTab.lookup c).getD []
theorem fields_nd (c : Str) : (fieldsOf c).Nodup := by
  have h : ∀ p ∈ fieldTab, p.2.Nodup := by decide +kernel
  unfold fieldsOf
  cases e : fieldTab.lookup c with
  | none => exact List.nodup_nil
  | some l =>
    have : ∀ {t : List (Str × List Str)}, t.lookup c = some l → ∃ p ∈ t, p.2 = l := by
      intro t
      induction t with
      | nil => intro h; cases h
      | cons p t ih =>
        intro h
        obtain ⟨a, b⟩ := p
        rw [List.lookup_cons] at h
        split at h
        · cases h; exact ⟨_, List.mem_cons_self, rfl⟩
        · obtain ⟨q, hq, e⟩ := ih h
          exact ⟨q, List.mem_cons_of_mem _ hq, e⟩
    obtain ⟨p, hp, e2⟩ := this e
    rw [← e2]
    exact h p hp
def gaM (mg : Str → Option Value) (x : Str) : Addr := match mg x with
  | some (.ref a) => a
  | _ => 0
def clsU (mg : Str → Option Value) (x : Str) : Value := match mg x with
  | some (.ref a) => .ref a
  | _ => .type "ValueError"
def clsW (mg : Str → Option Value) (x : Str) : V := match mg x with
  | some (.ref a) => .ref a
  | _ => .ty "ValueError"
theorem cls_VU (mg : Str → Option Value) (x : Str) : ClsV (clsW mg x) (clsU mg x) := by
  unfold clsW clsU
  split
  · exact .own _
  · exact .ty _
def erX (mg : Str → Option Value) (rs : List Str) : Xk Er := ⟨fun e cls d H => e.cn ∈ rs ∧ exC (gaM mg e.cn) (fieldsOf e.cn) (e.fs.map FV.p) cls d H, fun f h => ⟨h.1, exC_mono f h.2⟩⟩
def erF (e : Er) (f : Str) : Option FV := ((fieldsOf e.cn).zip e.fs).lookup f
structure XcT (P : Program) (K : PySem.W.Frag) (mg : Str → Option Value) (x : Str) : Prop where
  g : mg x = some (.ref (gaM mg x))
  tx : ∃ fI, SxTxt P K (gaM mg x) fI (fieldsOf x)
  ec : ExcC K (gaM mg x)
  xf : XfC K (gaM mg x)
structure XsT (P : Program) (K : PySem.W.Frag) (mg : Str → Option Value) (rs cs : List Str) : Prop where
  sup : mg "super" = none
  x : ∀ x ∈ rs, XcT P K mg x
  own : ∀ y ∈ cs, y = "ValueError" ∧ mg y = none ∨ mg y = some (.ref (gaM mg y))
  kit : ∀ x ∈ rs, ∀ y ∈ cs, PySem.W.kitOne K (.ref (gaM mg x)) (clsU mg y) = some (subC x y)
  exm : ∀ x ∈ rs, ∀ y ∈ cs, PySem.W.exmOne K (.ref (gaM mg x)) (clsU mg y) = some (subC x y)
theorem XsT.kits {P : Program} {K : PySem.W.Frag} {mg : Str → Option Value} {rs cs : List Str} (T : XsT P K mg rs cs) {x : Str} (hx : x ∈ rs) : ∀ {ys : List Str}, (∀ y ∈ ys, y ∈ cs) → ys ≠ [] → PySem.W.kitAny K (.ref (gaM mg x)) (ys.map (clsU mg)) = some (ys.any (subC x))
  | [], _, ne => absurd rfl ne
  | [y], h, _ => by
    have e := T.kit x hx y (h y List.mem_cons_self)
    show PySem.W.kitAny K _ [clsU mg y] = some (subC x y || false)
    rw [Bool.or_false]
    unfold PySem.W.kitAny
    rw [e]
    cases subC x y <;> rfl
  | y :: z :: ys, h, _ => by
    have e := T.kit x hx y (h y List.mem_cons_self)
    have ih := T.kits hx (ys := z :: ys) (fun w hw => h w (List.mem_cons_of_mem _ hw)) (by simp)
    show PySem.W.kitAny K _ (clsU mg y :: (z :: ys).map (clsU mg)) = some (subC x y || (z :: ys).any (subC x))
    refine kitAny_cons e (fun hb => ?_) fun hb => ?_
    · rw [hb, Bool.false_or]; exact ih
    · rw [hb, Bool.true_or]
theorem XsT.names {P : Program} {rs cs : List Str} {X : Cx} (T : XsT P X.K X.mg rs cs) {y : Str} (hy : y ∈ cs) (hg : Gl X y := by rfl) (hd : (y == ("__debug__" : Str)) = false := by decide) (hn : y ≠ "__name__" := by decide) : Names X y (clsU X.mg y) := by
  refine ⟨hg, hd, ?_⟩
  unfold clsU
  rcases T.own y hy with ⟨e, h⟩ | h
  · rw [h]; subst e
    exact .inr ⟨rfl, by decide +kernel, hn⟩
  · rw [h]; exact .inl rfl
section
variable {X : Cx} {W : Bool} {F : Fm} {Γ : Gm} {Δ : Δs} {γ : Type} {P : Program} {rs cs : List Str}
theorem x_cls {k : Unit → Option γ} {y : Str} {pos : Pos} (T : XsT P X.K X.mg rs cs) (hy : y ∈ cs) (hg : Gl X y := by rfl) (hd : (y == ("__debug__" : Str)) = false := by decide) (hn : y ≠ "__name__" := by decide) : PE X (.Name y pos) (tE W F Γ Δ (k ()) k (fun _ => pV (clsW X.mg y)) fun _ => Δ) := by
  have h : PE X (.Name y pos) (tC (clsW X.mg y)) := by
    unfold clsW
    rcases T.own y hy with ⟨e, h⟩ | h
    · rw [h]; subst e
      exact pe_bltn hg h (by decide +kernel) rfl hn hd
    · rw [h]; exact pe_glob hg h rfl hd
  exact h.wk fun σ H Q ⟨ok, g, e, q⟩ => q () _ H e (St.refl H) ok rfl
variable {a : Addr} {oe : Obj} {cls : Value} {d : Option Addr} {pn : List (Addr × Obj)} {e : Er} {mg : Str → Option Value}
theorem exC_d {C : Addr} {ps : List Str} {pds : List Pd} {H : Hp} (h : exC C ps pds cls d H) : d = none ∨ ∃ dd fs, d = some dd ∧ H dd = some (.xd fs) := by
  obtain ⟨_, ⟨_, h⟩ | ⟨_, dd, vs, e, h, _⟩⟩ := h
  · exact .inl h
  · exact .inr ⟨dd, _, e, h⟩
theorem x_isE1 {β : Type} {T0 : Option γ} {k : β → Option γ} {Δ1 : β → Δs} {ne : Expr} {y : Str} {p1 p3 pos : Pos} (hz : Zc cls d oe) (hf : ∃ vs, oe.data = .fields vs) (T : XsT P X.K X.mg rs cs) (hy : y ∈ cs) (hm : X.mg "isinstance" = none) (h1 : PE (X.suite a ((a, oe) :: pn)) ne (tE W F Γ Δ T0 k (fun _ => pExc (erX X.mg rs) a cls d e) Δ1))
    (hg : Gl X "isinstance" := by rfl) (hgy : Gl X y := by rfl) (hdy : (y == ("__debug__" : Str)) = false := by decide) (hny : y ≠ "__name__" := by decide) (hs : starEach [ne, .Name y p3] X.env = (false, eval ne X.env) :: starEach [.Name y p3] X.env := by rfl) :
    PE (X.suite a ((a, oe) :: pn)) (.Call (.Name "isinstance" p1) [ne, .Name y p3] [] pos) (tE W F Γ Δ T0 k (fun _ => pBl (subC e.cn y)) Δ1) := by
  have h2 : ∀ b, PE (X.suite a ((a, oe) :: pn)) (.Name y p3) (tE W F Γ (Δ1 b) (k b) (fun _ : Unit => k b) (fun _ => pV (clsW X.mg y)) fun _ => Δ1 b) := fun b => x_cls (k := fun _ => k b) (X := X.suite a ((a, oe) :: pn)) T hy hgy hdy hny
  exact (b_callB (X := X.suite a ((a, oe) :: pn)) (call_isX hz hf) hg hm boot_isinstance (by decide) (by decide) hs (by rfl) (by rfl) _ _ h1 (pe_ex h2)).wk fun σ H Q ⟨ok, g, e', q⟩ => ⟨ok, g, e', fun b v H1 kb f ok1 hv => ⟨b, ok1, g, kb, fun _ w H2 kb2 f2 ok2 hw => by
    obtain ⟨ev, hin, hx⟩ := hv
    have hw : w = clsW X.mg y := hw
    subst ev hw
    have hx2 := exC_mono f2.fz hx
    exact ⟨_, _, _, rfl, hx2.1, (T.x _ hin).ec, exC_d hx2, .inl ⟨_, cls_VU X.mg y, T.kit _ hin y hy⟩, q b _ H2 kb (f.trans f2) ok2 rfl⟩⟩⟩
def pTps (ps : List Pd) : Pd where
  pr H v := ∃ a vs, v = .ref a ∧ H a = some (.tup vs) ∧ Paired (fun p u => Pd.pr p H u) ps vs
  mono := fun f ⟨a, vs, e, h, p⟩ => ⟨a, vs, e, f _ _ trivial h, paired_mono (fun p _ q => p.mono f q) p⟩
theorem x_tups {X : Cx} {es : List Expr} {x1} {pos : Pos} {β : Type} {T : Option γ} {k : β → Option γ} {Δ1 : β → Δs} {ps : List Pd} (ha : PA X es (tAr W F Γ Δ T k (fun _ => ps) Δ1)) (hl : ps.length ≤ 1000 := by decide) : PE X (.Tuple es x1 pos) (tE W F Γ Δ T k (fun _ => pTps ps) Δ1) :=
  (pe_tup ha).wk fun σ H Q ⟨ok, g, e, w⟩ => ⟨ok, g, e, fun b vs H' kb f ok' hp => by
    refine ⟨by rw [← paired_len hp]; exact Nat.le_trans hl (by decide), fun t nt => ?_⟩
    have g' : Gr H' (upd H' t (.tup vs)) := Gr.new nt
    exact w b _ _ kb (f.trans g'.st) (ok'.gr g') ⟨t, vs, rfl, upd_same, paired_mono (fun p v q => p.mono g'.fzs q) hp⟩⟩
theorem clsVs {H : Hp} {mg : Str → Option Value} : ∀ {ys : List Str} {vs : List V}, Paired (fun p u => Pd.pr p H u) (ys.map fun y => pV (clsW mg y)) vs → Paired ClsV vs (ys.map (clsU mg))
  | [], _, .nil => .nil
  | y :: ys, _, .cons r t => .cons (by
    rename_i v vs
    have r : v = clsW mg y := r
    rw [r]
    exact cls_VU mg y) (clsVs t)
theorem x_isET {β : Type} {T0 : Option γ} {k : β → Option γ} {Δ1 : β → Δs} {ne te : Expr} {p1 pos : Pos} (ys : List Str) (hz : Zc cls d oe) (hf : ∃ vs, oe.data = .fields vs) (T : XsT P X.K X.mg rs cs) (hy : ∀ y ∈ ys, y ∈ cs) (hyn : ys ≠ []) (hm : X.mg "isinstance" = none) (h1 : PE (X.suite a ((a, oe) :: pn)) ne (tE W F Γ Δ T0 k (fun _ => pExc (erX X.mg rs) a cls d e) Δ1))
    (h2 : ∀ b, PE (X.suite a ((a, oe) :: pn)) te (tE W F Γ (Δ1 b) (k b) (fun _ : Unit => k b) (fun _ => pTps (ys.map fun y => pV (clsW X.mg y))) fun _ => Δ1 b)) (hg : Gl X "isinstance" := by rfl) (hs : starEach [ne, te] X.env = (false, eval ne X.env) :: starEach [te] X.env := by rfl) (hs2 : starEach [te] X.env = (false, eval te X.env) :: starEach [] X.env := by rfl) (hpl : (backTo pos (starEach [te] X.env)).any (·.1) = false := by rfl) :
    PE (X.suite a ((a, oe) :: pn)) (.Call (.Name "isinstance" p1) [ne, te] [] pos) (tE W F Γ Δ T0 k (fun _ => pBl (ys.any (subC e.cn))) Δ1) :=
  (b_callB (X := X.suite a ((a, oe) :: pn)) (call_isX hz hf) hg hm boot_isinstance (by decide) (by decide) hs hs2 hpl _ _ h1 (pe_ex h2)).wk fun σ H Q ⟨ok, g, e', q⟩ => ⟨ok, g, e', fun b v H1 kb f ok1 hv => ⟨b, ok1, g, kb, fun _ w H2 kb2 f2 ok2 hw => by
    obtain ⟨ev, hin, hx⟩ := hv
    obtain ⟨tp, vs, ew, ht, hp⟩ := hw
    subst ev ew
    have hx2 := exC_mono f2.fz hx
    exact ⟨_, _, _, rfl, hx2.1, (T.x _ hin).ec, exC_d hx2, .inr ⟨tp, vs, _, rfl, ht, clsVs hp, T.kits hin hy hyn⟩, q b _ H2 kb (f.trans f2) ok2 rfl⟩⟩⟩
theorem zip_rev_V : ∀ {ps : List Str} {vs : List V}, ps.Nodup → ∀ {f : Str} {pds : List Pd} {fvs : List FV} {fv : FV} {H : Hp}, pds = fvs.map FV.p → Paired (fun p v => Pd.pr p H v) pds vs → (ps.zip fvs).lookup f = some fv → ∃ v, (ps.zip vs).reverse.lookup f = some v ∧ (FV.p fv).pr H v
  | [], _, _, f, pds, fvs, fv, H, _, _, h => by simp at h
  | p :: ps, vs, nd, f, pds, [], fv, H, _, _, h => by simp at h
  | p :: ps, vs, nd, f, pds, q :: fvs, fv, H, e, hp, h => by
    subst e
    cases hp with
    | @cons _ v _ vs r t =>
      rw [List.nodup_cons] at nd
      rw [List.zip_cons_cons, List.lookup_cons] at h
      rw [List.zip_cons_cons, List.reverse_cons, List.lookup_append]
      by_cases hf : f = p
      · subst hf
        simp only [beq_self_eq_true] at h
        cases h
        have hn : (ps.zip vs).reverse.lookup f = none := by
          rw [List.lookup_eq_none_iff]
          intro q hq
          have hq := List.mem_reverse.mp hq
          have := (List.of_mem_zip (show (q.1, q.2) ∈ ps.zip vs from hq)).1
          simp only [beq_eq_false_iff_ne, ne_eq, bne_iff_ne, Bool.not_eq_true]
          exact fun e => nd.1 (by rw [e]; exact this)
        rw [hn]
        exact ⟨v, by simp [List.lookup], r⟩
      · have hb : (f == p) = false := by simpa using hf
        rw [hb] at h
        obtain ⟨v', e', r'⟩ := zip_rev_V nd.2 (f := f) rfl t h
        exact ⟨v', by rw [e']; rfl, r'⟩
theorem x_erF {β : Type} {T0 : Option γ} {k : β × FV → Option γ} {Δ1 : β → Δs} {ne : Expr} {f : Str} {pos : Pos} (hz : Zc cls d oe) (hf : ∃ vs, oe.data = .fields vs) (T : XsT P X.K X.mg rs cs) (h1 : PE (X.suite a ((a, oe) :: pn)) ne (tE W F Γ Δ T0 (fun b => (erF e f).bind fun y => k (b, y)) (fun _ => pExc (erX X.mg rs) a cls d e) Δ1))
    (hb : attributeBase ne f X.env (eval ne X.env) = eval ne X.env := by rfl) : PE (X.suite a ((a, oe) :: pn)) (.Attribute ne f pos) (tE W F Γ Δ T0 k (fun b => FV.p b.2) fun b => Δ1 b.1) := by
  by_cases hin : e.cn ∈ rs ∧ f ∈ fieldsOf e.cn
  · obtain ⟨fI, tx⟩ := (T.x _ hin.1).tx
    exact (pe_xf (X := X) (T.x _ hin.1).xf (tx.noN f hin.2) hz hf h1 hb).wk fun σ H Q ⟨ok, g, e', q⟩ => ⟨ok, g, e', fun b v H1 kb fz ok1 hv => by
      obtain ⟨ev, _, hx⟩ := hv
      obtain ⟨y, ey, ky⟩ := bind_some kb
      obtain ⟨ec, ⟨en, _⟩ | ⟨_, dd, vs, ed, hd, hp⟩⟩ := hx
      · unfold erF at ey
        rw [en] at ey
        simp at ey
      · obtain ⟨v', el, hv'⟩ := zip_rev_V (fields_nd e.cn) rfl hp ey
        exact ⟨ev, ec, dd, _, v', ed, hd, el, q (b, y) v' H1 ky fz ok1 hv'⟩⟩
  · have he : ∀ {τ : Type} (kk : FV → Option τ), e.cn ∈ rs → (erF e f).bind kk = none := fun kk hr => by
      have hnf : f ∉ fieldsOf e.cn := fun z => hin ⟨hr, z⟩
      have : erF e f = none := by
        unfold erF
        rw [List.lookup_eq_none_iff]
        intro q hq
        have := (List.of_mem_zip (show (q.1, q.2) ∈ (fieldsOf e.cn).zip e.fs from hq)).1
        simp only [beq_eq_false_iff_ne, ne_eq, bne_iff_ne, Bool.not_eq_true]
        exact fun e => hnf (by rw [e]; exact this)
      rw [this]; rfl
    refine ⟨fun pins s σ H Q I ⟨ok, g, e', q⟩ => attr_of hb (thn (h1.run pins s σ H (fun _ _ => False) I ⟨ok, g, e', fun b v H1 kb fz ok1 hv => by
      obtain ⟨y, ey, _⟩ := bind_some kb
      have z := he (fun y => some y) hv.2.1
      rw [ey] at z
      cases z⟩) fun u s1 hh => ?_)⟩
    obtain ⟨_, _, _, _, z⟩ := hh
    exact z.elim
theorem x_fv {X : Cx} {a : Expr} {β α : Type} {T : Option γ} {k : β × α → Option γ} {Ee : α → Pd} {x : β → FV} {Δ1 : β → Δs} (c : FV → Option α) (hc : ∀ y z, c y = some z → FV.p y = Ee z) (ha : PE X a (tE W F Γ Δ T (fun b => (c (x b)).bind fun y => k (b, y)) (fun b => FV.p (x b)) Δ1)) : PE X a (tE W F Γ Δ T k (fun b => Ee b.2) fun b => Δ1 b.1) :=
  ha.wk fun σ H Q ⟨ok, g, e, q⟩ => ⟨ok, g, e, fun b v H' kb f ok' hv => by
    obtain ⟨y, ey, ky⟩ := bind_some kb
    have hv : (FV.p (x b)).pr H' v := hv
    rw [hc _ _ ey] at hv
    exact q (b, y) v H' ky f ok' hv⟩
theorem fv_str : ∀ y z, FV.str? y = some z → FV.p y = pStr z := fun y z h => by cases y <;> cases h <;> rfl
end
end L3
end
section
set_option maxHeartbeats 4000000
set_option autoImplicit true
namespace L3
open PySem PySem.Spec PyProof.Rows L2 PySem.SxX
theorem nm_wk {Γ Γ' : Gm} {σ : SS} {H : Hp} (k : Nm Γ σ H) (g : SubG Γ' Γ) : Nm Γ' σ H := ⟨k.len.trans g.len.symm, fun i p e => k.gam i p (g.get e)⟩
def fTg {S τ : Type} (F : Fm) (C : S → Cxt) (Tf : Fn τ) : Fn (Tm S τ) := ⟨fun H o D => match o with
  | .ct s => nxOk F (C s) H D.ct
  | .bk s => nxOk F (C s) H D.bk
  | .rt r => Tf.fin H r D, fun {H H' g D} h f => by
    cases g with
    | ct s => exact nxOk.mono h f
    | bk s => exact nxOk.mono h f
    | rt r => exact Tf.mono h f⟩
def InsT {τ : Type} (Tf : Fn τ) : Prop := ∀ H r (D D' : Ends), D.rt = D'.rt → Tf.fin H r D → Tf.fin H r D'
theorem insT_F {ρ : Type} (R : Rt ρ) : InsT (fF R) := fun H r D D' e h => by
  have h : R r D.rt := h
  show R r D'.rt
  rw [← e]; exact h
theorem insT_X {ε τ : Type} {Kx : Xk ε} {Tf : Fn τ} {F : Fm} {Δx : Δs} {Nx : SS → Hp → Prop} {Wx : WX} (h : InsT Tf) : InsT (fX Kx Tf F Δx Nx Wx) := fun H g D D' e q => by
  cases g with
  | ok t => exact h H t D D' e q
  | error e => exact q
theorem ins_Tg {S τ : Type} {F : Fm} {C : S → Cxt} {Tf : Fn τ} (h : InsT Tf) : Ins (fTg F C Tf) := fun H g D n q => by
  cases g with
  | ct s => exact q
  | bk s => exact q
  | rt r => exact h H r D _ rfl q
theorem ex_T {ε S τ : Type} {Kx : Xk ε} {Tf : Fn τ} {ιx : ε → τ} {C : S → Cxt} {F F' : Fm} {Δx : Δs} {Nx : SS → Hp → Prop} {Wx : WX} (h : Ex Tf ιx Kx F Δx Nx Wx) : Ex (fTg F' C Tf) (fun e => Tm.rt (ιx e)) Kx F Δx Nx Wx := fun H e D q => h H e D q
section
variable {X : Cx} {W : Bool} {F : Fm} {Γ : Gm} {Δ : Δs} {γ : Type} {N : Fn γ} {rest : List Stmt}
theorem s_forX {tg iter : Expr} {body : List Stmt} {pos : Pos} {g : TG} {α β S ρ : Type} {T : Option γ} {Ex : α → Pd} {bd : Gm → α → Gm} {xs : β → List α} {Δ' : β → Δs} {f : β → α → S → Option (Bo S (Tm S ρ))} {k2 : β → S → Option γ} {ι : ρ → γ} {Tf : Fn ρ} (hp : PassesOwn (model X.prog X.w) X.A X.env X.xe) (C : β → S → Cxt) (s0 : β → S)
    (hi : PI X tg iter (tI true F Γ Δ T (fun b => (forL (xs b) (s0 b) (f b)).bind (boK (k2 b) ι)) Ex xs Δ')) (hg : PG X tg g) (ht : Tgt g Ex bd) (h0 : ∀ b, SubG (C b (s0 b)).1 Γ) (h0d : ∀ b, (C b (s0 b)).2.Sublist (Δ' b))
    (hb : ∀ b x s, PSs X body (tS F (bd (C b s).1 x) (C b s).2 (fB F (C b) (fTg F (C b) Tf)) (f b x s))) (hr : ∀ b s, PSs X rest (tS F (C b s).1 (C b s).2 N (k2 b s))) (hN : ∀ H r D, N.fin H (ι r) D → Tf.fin H r D) (hI : InsT Tf) (hc : X.calm = true := by rfl) (hfs : ∀ x, foldedSetIterable iter X.env x = pure x := by intro _; rfl) :
    PSs X (.For tg iter body [] pos :: rest) (tS F Γ Δ N T) :=
  (pss_cons (ps_for hp hc hi hg (pss_ex fun b => pss_ex fun x => pss_ex fun s => hb b x s) hfs) (pss_ex fun b => pss_ex fun s => hr b s)).wk fun D σ H ⟨ok, gg, e, fin⟩ => ⟨ok, gg, e, fun b J H1 kb f1 ok1 _ wk => by
    obtain ⟨o, eo, ko⟩ := bind_some kb
    refine ⟨fun i m σ' H' => i + m = (xs b).length ∧ Fzs H1 H' ∧ ∃ s, Ok F (C b s).1 (C b s).2 σ' H' ∧ forL ((xs b).drop i) s (f b) = some o, ⟨(xs b).length, Nat.zero_add _, Fzs.refl _, s0 b, ok1.wk (h0 b) (h0d b), by rw [List.drop_zero]; exact eo⟩, fun i m σ2 H2 ⟨em, fz2, s, ok2, e2⟩ => ?_⟩
    by_cases hi : i < (xs b).length
    · obtain ⟨x, hx, ed⟩ := drop_cons hi
      rw [ed] at e2
      have e2 : (f b x s).bind _ = some o := e2
      obtain ⟨ob, eb, e2⟩ := bind_some e2
      refine .inr ⟨((wk H2 fz2) i).1 hi, fun σ3 H3 => (i + 1) + (m - 1) = (xs b).length ∧ Fzs H1 H3 ∧ ∃ s, Ok F (C b s).1 (C b s).2 σ3 H3 ∧ forL ((xs b).drop (i + 1)) s (f b) = some o, fun σ3 H3 h3 => ⟨m - 1, by omega, h3⟩, fun v H3 hy => ?_⟩
      obtain ⟨gr3, pv⟩ := ((wk H2 fz2) i).2.2 x v H3 hx hy
      refine ht F _ _ σ2 H3 x v _ (ok2.gr gr3) pv fun σ4 ok4 => ⟨b, x, s, ok4, ob, eb, ?_⟩
      cases ob with
      | nx s' => exact fun σ5 H5 f5 ok5 => ⟨by omega, (fz2.trans gr3.fzs).trans f5, s', ok5, e2⟩
      | tm t =>
        cases t with
        | ct s' => exact fun σ5 H5 f5 ok5 => ⟨by omega, (fz2.trans gr3.fzs).trans f5, s', ok5, e2⟩
        | bk s' =>
          have e2 : some (Bo.nx s') = some o := e2
          cases e2
          exact fun σ5 H5 f5 ok5 => ⟨b, s', ok5, gg, ko, N.mono fin (f1.fz.trans ((fz2.trans gr3.fzs).trans f5))⟩
        | rt r =>
          have e2 : some (Bo.tm r) = some o := e2
          cases e2
          have ko : some (ι r) = some gg := ko
          cases ko
          exact hI _ _ D _ rfl (Tf.mono (hN H r D fin) (f1.fz.trans (fz2.trans gr3.fzs)))
    · refine .inl ⟨((wk H2 fz2) i).2.1 (by omega), ?_⟩
      rw [List.drop_eq_nil_of_le (by omega)] at e2
      have e2 : some (Bo.nx s) = some o := e2
      cases e2
      exact ⟨b, s, ok2, gg, ko, N.mono fin (f1.fz.trans fz2)⟩⟩
end
theorem XsT.exms {P : Program} {K : PySem.W.Frag} {mg : Str → Option Value} {rs cs : List Str} (T : XsT P K mg rs cs) {y : Str} (hy : y ∈ cs) : ∀ e cls d H, (erX mg rs).ok e cls d H → PySem.W.exmOne K cls (clsU mg y) = some (subC e.cn y) := fun e cls d H h => by
  rw [h.2.1]
  exact T.exm _ h.1 y hy
section
variable {X : Cx} {W : Bool} {F : Fm} {Γ : Gm} {Δ : Δs} {γ : Type}
theorem y_cls {P : Program} {rs cs : List Str} {T : Option γ} {y : Str} {pos : Pos} (Tx : XsT P X.K X.mg rs cs) (hy : y ∈ cs) (hg : Gl X y := by rfl) (hd : (y == ("__debug__" : Str)) = false := by decide) (hn : y ≠ "__name__" := by decide) : PE X (.Name y pos) (tE W F Γ Δ T (fun _ : Unit => T) (fun _ => pV (clsW X.mg y)) fun _ => Δ) := x_cls (k := fun _ => T) Tx hy hg hd hn
section
variable {a b : Expr} {pos : Pos} {β1 β2 : Type} {T : Option γ} {k1 : β1 → Option γ} {k : β1 × β2 → Option γ} {Δ1 : β1 → Δs} {Δ2 : β1 → β2 → Δs}
end
end
end L3
end
section
set_option maxHeartbeats 4000000
set_option autoImplicit true
namespace L3
open PySem PySem.Spec PyProof.Rows L2 PySem.SxX
section
variable {X : Cx} {W : Bool} {F : Fm} {Γ : Gm} {Δ : Δs} {γ : Type} {P : Program} {rs cs : List Str}
theorem c_nil {T : Option γ} {mg : Str → Option Value} : PA X [] (tAr W F Γ Δ T (fun _ : Unit => T) (fun _ => ([] : List Str).map fun y => pV (clsW mg y)) fun _ => Δ) := b_nil
theorem c_cons {T : Option γ} {y : Str} {ys : List Str} {es : List Expr} {pos : Pos} (Tx : XsT P X.K X.mg rs cs) (hy : y ∈ cs) (h : PA X es (tAr W F Γ Δ T (fun _ : Unit => T) (fun _ => ys.map fun y => pV (clsW X.mg y)) fun _ => Δ)) (hg : Gl X y := by rfl) (hd : (y == ("__debug__" : Str)) = false := by decide) (hn : y ≠ "__name__" := by decide)
    (hs : starEach (.Name y pos :: es) X.env = (false, eval (.Name y pos) X.env) :: starEach es X.env := by rfl) : PA X (.Name y pos :: es) (tAr W F Γ Δ T (fun _ : Unit => T) (fun _ => (y :: ys).map fun y => pV (clsW X.mg y)) fun _ => Δ) :=
  (a_cons (β1 := Unit) (β2 := Unit) (k1 := fun _ => T) (k := fun _ => T) (Es := fun _ _ => ys.map fun y => pV (clsW X.mg y)) (Δ1 := fun _ => Δ) (Δ2 := fun _ _ => Δ) (y_cls (pos := pos) Tx hy hg hd hn) (fun _ => h) hs).wk fun σ H Q ⟨ok, g, e, q⟩ => ⟨ok, g, e, fun b v H' kb f ok' hv => q () v H' kb f ok' (by cases b; exact hv)⟩
variable {a : Addr} {oe : Obj} {cls : Value} {d : Option Addr} {pn : List (Addr × Obj)} {e : Er}
theorem x_isEC {β : Type} {T0 : Option γ} {k : β → Option γ} {Δ1 : β → Δs} {ne : Expr} {es : List Expr} {p1 p2 pos : Pos} {x1} (ys : List Str) (hz : Zc cls d oe) (hf : ∃ vs, oe.data = .fields vs) (T : XsT P X.K X.mg rs cs) (hy : ∀ y ∈ ys, y ∈ cs) (hyn : ys ≠ []) (hm : X.mg "isinstance" = none) (h1 : PE (X.suite a ((a, oe) :: pn)) ne (tE W F Γ Δ T0 k (fun _ => pExc (erX X.mg rs) a cls d e) Δ1))
    (h2 : ∀ b, PA (X.suite a ((a, oe) :: pn)) es (tAr W F Γ (Δ1 b) (k b) (fun _ : Unit => k b) (fun _ => ys.map fun y => pV (clsW X.mg y)) fun _ => Δ1 b)) (hl : ys.length ≤ 1000 := by decide) (hg : Gl X "isinstance" := by rfl) (hs : starEach [ne, .Tuple es x1 p2] X.env = (false, eval ne X.env) :: starEach [.Tuple es x1 p2] X.env := by rfl) (hs2 : starEach [.Tuple es x1 p2] X.env = (false, eval (.Tuple es x1 p2) X.env) :: starEach [] X.env := by rfl) (hpl : (backTo pos (starEach [.Tuple es x1 p2] X.env)).any (·.1) = false := by rfl) :
    PE (X.suite a ((a, oe) :: pn)) (.Call (.Name "isinstance" p1) [ne, .Tuple es x1 p2] [] pos) (tE W F Γ Δ T0 k (fun _ => pBl (ys.any (subC e.cn))) Δ1) :=
  x_isET ys hz hf T hy hyn hm h1 (fun b => x_tups (h2 b) (by rw [List.length_map]; exact hl)) hg hs hs2 hpl
theorem x_tp2 {a b : Expr} {x1} {pos : Pos} {α1 α2 β : Type} {T : Option γ} {k : β → Option γ} {Δ1 : β → Δs} (E1 : α1 → Pd) (E2 : α2 → Pd) (x : β → α1) (y : β → α2) (ha : PA X [a, b] (tAr W F Γ Δ T k (fun b => [E1 (x b), E2 (y b)]) Δ1)) :
    PE X (.Tuple [a, b] x1 pos) (tE W F Γ Δ T k (fun b => pT2 E1 E2 (x b, y b)) Δ1) := x_tup2 ha E1 E2 x y (fun _ => rfl) (fun _ => rfl)
theorem pa_kd {β : Type} {es : List Expr} {T : Option γ} {k : β → Option γ} {E E' : β → List Pd} {Δ' : β → Δs} (h : PA X es (tAr W F Γ Δ T k E' Δ')) (hE : ∀ b, E b = E' b := by intro _; rfl) : PA X es (tAr W F Γ Δ T k E Δ') := by
  have e1 : E = E' := funext hE
  subst e1
  exact h
end
end L3
end
section
set_option maxHeartbeats 4000000
set_option autoImplicit true
namespace L3
open PySem PySem.Spec PyProof.Rows L2 PySem.SxX
open He (ga ma eqO eqO_ok ba)
theorem clsXB_ok {K : PySem.W.Frag} {C : Addr} (q : clsXB K C = true) : ∃ nm q N bs bm sn sub ab col dd k0 k1 k2 k3 k5, K.lookup C = some (excClassObj nm q C N bs bm true sn sub ab col dd k0 k1 k2 k3 k5 "ValueError.__new__") ∧ PySem.HandSPX.refsVE bm = true := by
  unfold clsXB at q
  split at q
  · rename_i dd cd sl ho
    split at q
    · rename_i C' bm k0 k1 k2 k3 n k5 hm hs
      simp only [Bool.and_eq_true, beq_iff_eq, Bool.not_eq_true'] at q
      obtain ⟨⟨⟨⟨rfl, rfl⟩, hdel⟩, hdi⟩, ht⟩ := q
      obtain ⟨nm, bs, mro, ns, qn, hd, sn, sub, ab, col, del⟩ := cd
      dsimp only at hm hdel hdi
      subst hm hdel hdi
      have hsl : sl = #[k0, k1, k2, k3, some (.builtin "ValueError.__new__"), k5] := by
        obtain ⟨l⟩ := sl
        simp only at hs
        rw [hs]
      subst hsl
      exact ⟨nm, qn, ns, bs, bm, sn, sub, ab, col, dd, k0, k1, k2, k3, k5, ho, ht⟩
    · cases q
  · cases q
structure XTx (P : Program) (d : XD) : Prop where
  few : d.ps.length ≤ 900
  top : (P.main.scope.names.lookup ("super" : Str)).isSome = false
  tx : ∃ (ar : Arg) (text : Str) (kk : Nat) (q0 q1 q2 q3 q4 q5 : Pos) (stores : List Stmt), d.body = .Expr (.Call (.Attribute (.Call (.Name "super" q1) [] [] q2) "__init__" q3) [.Constant (.str text) kk q0] [] q4) q5 :: stores ∧ Stores stores d.ps ∧
    (d.params.posonlyargs ++ d.params.args).head? = some ar ∧ ar.arg = "self" ∧ (q3.endLine == q4.line) = true
  s1 : d.scope.names.lookup ("super" : Str) = some .globalImplicit
  s2 : d.scope.names.lookup ("__class__" : Str) = some .free
  s3 : d.scope.names.lookup ("self" : Str) = some .local
  s4 : ∀ f ∈ d.ps, d.scope.names.lookup f = some .local
  s5 : d.scope.kind = .function
  s6 : d.scope.isCoroutine = false
  s7 : d.scope.isGenerator = false
  s8 : ∀ x ∈ d.scope.names, x.2 ≠ .cell
  nd : (("self" : Str) :: d.ps).Nodup
  bi : ∀ (doc pm : Value) (an : Option Addr) (cda ct : Value) (cc : Addr) (us : List Value), us.length = d.ps.length + 1 → bindArgs (PySem.W.ksFn "__init__" d.qual d.params d.body d.scope .none .none doc pm an cda ct cc) ⟨us, []⟩ = pure ((("self" : Str) :: d.ps).zip us)
theorem XD.sx {P : Program} {K : PySem.W.Frag} {d : XD} (e : fnXo K d.name = d.val) (c : d.ok P K = true) (t : XTx P d) : SxTxt P K (ga K d.name) (iAd K d.name) d.ps ∧ ExcC K (ga K d.name) ∧ XfC K (ga K d.name) := by
  obtain ⟨c1, c⟩ := ba c
  obtain ⟨c2, c⟩ := ba c
  obtain ⟨c3, c⟩ := ba c
  obtain ⟨c4, c⟩ := ba c
  obtain ⟨c5, c⟩ := ba c
  obtain ⟨c6, c⟩ := ba c
  obtain ⟨c7, c⟩ := ba c
  obtain ⟨c8, c⟩ := ba c
  obtain ⟨c9, c⟩ := ba c
  obtain ⟨c10, c⟩ := ba c
  obtain ⟨c11, c⟩ := ba c
  obtain ⟨c12, c⟩ := ba c
  obtain ⟨c13, c⟩ := ba c
  obtain ⟨c14, c⟩ := ba c
  obtain ⟨c15, c⟩ := ba c
  obtain ⟨c16, c⟩ := ba c
  obtain ⟨c17, c⟩ := ba c
  obtain ⟨c18, c19⟩ := ba c
  refine ⟨⟨clsXB_ok c1, eqO_ok c2, fun f hf => eqO_ok (List.all_eq_true.mp c3 f hf), eqO_ok c4, of_decide_eq_true c5, c6, of_decide_eq_true c7, of_decide_eq_true c8, of_decide_eq_true c9, eqO_ok c10, eqO_ok c11, t.few, t.top, ?_⟩, ⟨eqO_ok c13, eqO_ok c14, of_decide_eq_true c7, c15, eqO_ok c16, eqO_ok c17, of_decide_eq_true c18, of_decide_eq_true c19⟩, ⟨eqO_ok c13, eqO_ok c14, of_decide_eq_true c7, c15⟩⟩
  obtain ⟨ar, text, kk, q0, q1, q2, q3, q4, q5, stores, eb, st, ha, hs, hl⟩ := t.tx
  have bi := t.bi
  obtain ⟨dn, dq, dp, db, ds, dps⟩ := d
  dsimp only at *
  subst eb
  unfold fnXo XD.val at e
  unfold iniXB at c12
  dsimp only at e c12
  cases q : K.lookup (iAd K dn) with
  | none => rw [q] at c12; cases c12
  | some o =>
    obtain ⟨oc, od, dt, osl⟩ := o
    rw [q] at c12 e
    cases dt with
    | func fd =>
      obtain ⟨n1, n2, n3, n4, n5, n6, n7, n8, n9, n10, n11, n12, n13, n14, n15⟩ := fd
      simp only [Option.some.injEq, Prod.mk.injEq] at e
      obtain ⟨h1, h2, h3, h4, h5, h6, h7, h8⟩ := e
      subst h1 h2 h3 h4 h5 h6 h8
      dsimp only at c12
      cases n8 with
      | none =>
        cases n9 with
        | none =>
          cases n13 with
          | ref cda =>
            match n7, h7, c12 with
            | [(nm, cc)], h7, c12 =>
              have h7 : [nm] = [("__class__" : Str)] := h7
              obtain rfl : nm = ("__class__" : Str) := (List.cons.inj h7).1
              obtain ⟨k1, k2⟩ := ba c12
              obtain ⟨k2, k3⟩ := ba k2
              split at k2
              · rename_i ccl cdd vs ccs hk
                split at k2
                · rename_i file tf hv
                  split at k3
                  · rename_i cl cld C' csl hc
                    have eC : C' = ga K dn := beq_iff_eq.mp k3
                    subst eC
                    exact ⟨oc, od, n10, n11, n12, cda, n14, osl, cc, _, _, ar, text, kk, q0, q1, q2, q3, q4, q5, stores, _, ccl, cdd, vs, ccs, file, tf, cl, cld, csl, rfl, k1, st, ha, hs, hk, hv, k2, hl, hc, t.s1, t.s2, t.s3, t.s4, t.s5, t.s6, t.s7, t.s8, t.nd, fun s us hl => .of_eq (bi _ _ _ _ _ _ us hl)⟩
                  · cases k3
                · cases k2
              · cases k2
            | [], _, c12 => cases c12
            | _ :: _ :: _, _, c12 => cases c12
          | _ => cases c12
        | _ => cases c12
      | _ => cases c12
    | _ => cases c12
section
variable {P : Program} {fa : List He.Fa} {fn : List He.DefD} {xs : List XD} {rs cs : List Str} {K : PySem.W.Frag}
theorem SaysX.xc {mg : Str → Option Value} (c : SaysX P fa fn xs rs cs K) (i : Nat) {d : XD} (h : xs[i]? = some d) (t : XTx P d) (hg : mg d.name = some (.ref (ga K d.name))) (hp : d.ps = fieldsOf d.name) : XcT P K mg d.name := by
  have c2 := (ba (show ((xs.all fun d => d.ok P K) && tabB K rs cs) = true from congrArg (fun z : AlX => z.2.2) c)).1
  have e : xs.map (fun d => fnXo K d.name) = xs.map XD.val := congrArg (fun z : AlX => z.2.1) c
  have e2 : (xs.map fun d => fnXo K d.name)[i]? = (xs.map XD.val)[i]? := by rw [e]
  rw [List.getElem?_map, List.getElem?_map, h] at e2
  obtain ⟨z1, z2, z3⟩ := XD.sx (Option.some.inj e2) (List.all_eq_true.mp c2 d (List.mem_of_getElem? h)) t
  have eg : gaM mg d.name = ga K d.name := by unfold gaM; rw [hg]
  exact ⟨by rw [eg]; exact hg, ⟨_, by rw [eg, ← hp]; exact z1⟩, by rw [eg]; exact z2, by rw [eg]; exact z3⟩
theorem SaysX.xst {mg : Str → Option Value} (c : SaysX P fa fn xs rs cs K) (hsup : mg "super" = none) (hx : ∀ x ∈ rs, XcT P K mg x) (hr : ∀ x ∈ rs, mg x = some (.ref (ga K x))) (hc : ∀ y ∈ cs, y = "ValueError" ∧ mg y = none ∨ y ≠ "ValueError" ∧ mg y = some (.ref (ga K y))) : XsT P K mg rs cs := by
  have c2 := (ba (show ((xs.all fun d => d.ok P K) && tabB K rs cs) = true from congrArg (fun z : AlX => z.2.2) c)).2
  have eg : ∀ x, mg x = some (.ref (ga K x)) → gaM mg x = ga K x := fun x h => by unfold gaM; rw [h]
  have eu : ∀ y ∈ cs, clsU mg y = cU K y := fun y hy => by
    unfold clsU cU
    rcases hc y hy with ⟨e, h⟩ | ⟨e, h⟩
    · rw [h, if_pos e]
    · rw [h, if_neg e]
  have tb : ∀ x ∈ rs, ∀ y ∈ cs, PySem.W.kitOne K (.ref (gaM mg x)) (clsU mg y) = some (subC x y) ∧ PySem.W.exmOne K (.ref (gaM mg x)) (clsU mg y) = some (subC x y) := fun x hx y hy => by
    rw [eg x (hr x hx), eu y hy]
    obtain ⟨a, b⟩ := ba (List.all_eq_true.mp (List.all_eq_true.mp c2 x hx) y hy)
    exact ⟨of_decide_eq_true a, of_decide_eq_true b⟩
  refine ⟨hsup, hx, fun y hy => ?_, fun x hx y hy => (tb x hx y hy).1, fun x hx y hy => (tb x hx y hy).2⟩
  rcases hc y hy with h | ⟨_, h⟩
  · exact .inl h
  · exact .inr (by rw [eg y h]; exact h)
end
end L3
end
section
set_option maxHeartbeats 4000000
set_option autoImplicit true
namespace L3
open PySem PySem.Spec PyProof.Rows L2
section
variable {X : Cx} {F : Fm} {Γ : Gm} {Δ : Δs} {γ : Type}
variable {α β β3 δ : Type} {g : TG} {own : List (Str × Nat)} {T : Option γ} {k : β × List δ → Option γ} {Ex : α → Pd} {D : δ → Od} {bd : Gm → α → Gm} {xs : β → List α} {Δ1 : β → Δs} {f : β → α → Option δ} {y : β → α → β3 → δ}
end
section
variable {X : Cx} {W : Bool} {F : Fm} {Γ : Gm} {Δ : Δs} {γ : Type}
end
theorem foMO {β κ α : Type} [DecidableEq κ] [Ky κ] {D : α → Od} {x : β → List (κ × α)} (fo : FlatO D) : FlatO fun b => oMO D (x b) := fun b G H H' v ⟨p, kvs, gs, eg, ev, hp, z, nd, ks, o3⟩ k => by
  refine ⟨p, kvs, gs, eg, ev, by rw [k p (by rw [eg]; exact List.mem_cons_self)]; exact hp, z, nd, ks, ?_⟩
  have kk : ∀ a ∈ gs.flatten, H' a = H a := fun a ha => k a (by rw [eg]; exact List.mem_cons_of_mem _ ha)
  clear ks hp z nd eg k
  revert kk
  generalize kvs.map (·.2) = vs at o3 ⊢
  generalize x b = xb at o3 ⊢
  induction o3 with
  | nil => exact fun _ => .nil
  | cons r t ih => exact fun kk => .cons (fo _ _ _ _ _ r fun a ha => kk a (by rw [List.flatten_cons]; exact List.mem_append.mpr (.inl ha))) (ih fun a ha => kk a (by rw [List.flatten_cons]; exact List.mem_append.mpr (.inr ha)))
theorem foMOL {β κ : Type} [DecidableEq κ] [Ky κ] {x : β → List (κ × List Int)} : FlatO fun b => oMO (oL pInt) (x b) := foMO fun b => foL (x := fun b : List Int => b) feI b
end L3
end
section
set_option maxHeartbeats 4000000
set_option autoImplicit true
namespace L3
open PySem PySem.Spec PyProof.Rows L2
def pSm {α β : Type} (E : α → Pd) (G : β → Pd) : α ⊕ β → Pd
  | .inl x => E x
  | .inr y => G y
section
variable {X : Cx} {W : Bool} {F : Fm} {Γ : Gm} {Δ : Δs} {γ : Type} {α β α' : Type} {E : α → Pd} {G : α' → Pd}
end
end L3
end
section
set_option maxHeartbeats 4000000
set_option autoImplicit true
namespace L3
open PySem PySem.Spec PyProof.Rows L2
section
variable {X : Cx} {W : Bool} {F : Fm} {Γ : Gm} {Δ : Δs} {γ : Type}
section
variable {a b : Expr} {pos : Pos} {β1 β2 α β : Type} {T : Option γ} {k1 : β1 → Option γ} {k : β1 × β2 → Option γ} {Δ1 : β1 → Δs} {Δ2 : β1 → β2 → Δs} {E : α → Pd} {G : β → Pd} {x : β1 → α × β} {y : β1 → β2 → α × β}
end
section
variable {a b : Expr} {pos : Pos} {β1 β2 α : Type} [DecidableEq α] {T : Option γ} {k1 : β1 → Option γ} {k : β1 × β2 → Option γ} {Δ1 : β1 → Δs} {Δ2 : β1 → β2 → Δs} {E : α → Pd} {x : β1 → α} {y : β1 → β2 → List α}
end
theorem s_front {st : List Stmt} {T : Option γ} {N : Fn γ} {c : Cell} (j : Nat) (hr : PSs X st (tS F Γ (c :: Δ.eraseIdx j) N T)) (hj : Δ[j]? = some c := by rfl) : PSs X st (tS F Γ Δ N T) :=
  hr.wk fun D σ H ⟨ok, g, e, f⟩ => ⟨⟨ok.hk.perm (erase_perm hj).symm, ok.nm⟩, g, e, f⟩
end
end L3
end
section
set_option maxHeartbeats 4000000
set_option autoImplicit true
namespace L3
open PySem PySem.Spec PyProof.Rows L2
section
variable {X : Cx} {W : Bool} {F : Fm} {Γ : Gm} {Δ : Δs} {γ : Type}
end
end L3
end
section
set_option maxHeartbeats 4000000
set_option autoImplicit true
namespace L3
open PySem PySem.Spec PyProof.Rows L2
section
variable {X : Cx}
theorem ps_setDc {i : Nat} {y : Str} {py : Pos} {kx vx tg iter : Expr} {ifs : List Expr} {scope : Scope} {own : List (Str × Nat)} {pos spos : Pos} {wi : TI} {g : TG} {tt : TT} {tk tv : TE} (hc : X.calm = true) (hN : X.N.Nodup) (hy : X.N[i]? = some y) (hyl : X.env.scope.names.lookup y = some .local)
    (hsw : swapsWith (.DictComp kx vx [⟨tg, iter, ifs, 0⟩] scope pos) (some (.Name y py)) spos.line X.env = pure true) (hi : PI X tg iter wi) (ok : BlkOk X.N X.env.scope scope own)
    (hg : Blk X scope fun Y => PG Y tg g) (ht : Blk X scope fun Y => PTs Y ifs tt) (hk : Blk X scope fun Y => PE Y kx tk)
    (he : Blk X scope fun Y => PE Y vx tv) (hs : ∀ x, foldedSetIterable iter X.env x = pure x := by intro _; rfl) :
    PS X (.Assign [.Name y py] (.DictComp kx vx [⟨tg, iter, ifs, 0⟩] scope pos) spos) (tAsg (tDc wi g tt tk tv (own.map (·.2))) (gName i)) := by
  refine ⟨fun pins s σ H D I h => ?_⟩
  rw [exec_Assign_Name_used _ _ _ _ hsw]
  refine wpAny_bind (wpAny_standAt (wpAny_bind ?_))
  show wpAny _ X.A (do let _ ← comprehension (.DictComp kx vx [⟨tg, iter, ifs, 0⟩] scope pos) scope X.env (firstIterPos [⟨tg, iter, ifs, 0⟩] pos) newDict false (eval iter X.env) (some (assign (.Name y py) X.env))) _ _ s
  have h : tDc wi g tt tk tv (own.map (·.2)) σ H (fun x H1 => gName i x σ H1 D.nx) := h
  refine wpAny_bind (thn (dc_core (Qf := fun _ s' => SP X pins D .next s') hc hN I hi ok hg ht hk he hs h fun L C s' m H' I' q hn f => ?_) fun _ s' hq => wpAny_pure (wpAny_pure hq))
  show wpAny _ _ (assign (.Name y py) X.env (.ref L)) _ _ _
  refine wpAny_assign_Name (store_ok2 (v := V.ref L) I' hN hy (.inl hyl) rfl (fun s2 I2 ⟨a, sb, ha⟩ => ?_) (.inr hyl))
  obtain ⟨f0, f1, f2, f3, f4, f5⟩ := f
  have haC : C ≠ a := by
    rcases ha with z | z
    · rw [z]; exact f1
    · exact fun e => f4 y a z e.symm
  refine ⟨m, hn.sameBut sb haC, fun h3 sb3 => ?_⟩
  exact ⟨_, H', I2.turned (t' := s2.toks) (fun b o hb e => (sb3.2 b hb).trans e) f0 f1 f3 f4 f5, q⟩
theorem sw_trueD {kx vx : Expr} {gs : List Comprehension} {scope : Scope} {pos py : Pos} {y : Str} {l : Nat} {env : Env} (hk : env.scope.kind = .function) (hy : env.scope.names.lookup y = some .local) (hl : (py.line == pos.line) = true)
    (ha : (scope.names.any fun (n, k) => n == y && (k == .local || k == .cell)) = false) : swapsWith (.DictComp kx vx gs scope pos) (some (.Name y py)) l env = pure true := by
  have ky : env.kindOf y = some .local := hy
  have hb : env.blockKind = .function := by unfold Env.blockKind; rw [hk]; rfl
  unfold swapsWith
  simp only [hb, ky, ha, Expr.pos, hl]
  rfl
end
section
variable {X : Cx} {F : Fm} {Γ : Gm} {Δ : Δs} {γ : Type} {κ δ : Type} [DecidableEq κ] [Ky κ]
variable {α β β2 β3 : Type} {g : TG} {own : List (Str × Nat)} {T : Option γ} {k : β × List (κ × δ) → Option γ} {Ex : α → Pd} {D : δ → Od} {bd : Gm → α → Gm} {xs : β → List α} {Δ1 : β → Δs} {f : β → α → Option (κ × δ)} {T2 : β → α → β2 → Option (κ × δ)} {ky : β → α → β2 → κ} {y : β → α → β2 → β3 → δ}
theorem a_dc {kx vx tg iter : Expr} {scope : Scope} {pos py spos : Pos} {i : Nat} {yv : Str} (nd : X.N.Nodup) (hi : PI X tg iter (tI true F Γ Δ T (fun b => (dcM (xs b) [] (f b)).bind fun r => k (b, r)) Ex xs Δ1)) (ok : BlkOk X.N X.env.scope scope own) (hg : Blk X scope fun Y => PG Y tg g) (ht : TgtW g Ex bd (own.map (·.2)))
    (hk : ∀ d, Blk X scope fun Y => ∀ b x, PE Y kx (tE true F (bd (wipeG Γ (own.map (·.2))) x) (Δ1 b ++ [d]) (f b x) (T2 b x) (fun b2 => Ky.kp (ky b x b2)) fun _ => Δ1 b ++ [d]))
    (he : ∀ d, Blk X scope fun Y => ∀ b x b2, PE Y vx (tO true F (bd (wipeG Γ (own.map (·.2))) x) (Δ1 b ++ [d]) (T2 b x b2) (fun b3 => some (ky b x b2, y b x b2 b3)) (fun b3 => D (y b x b2 b3)) fun _ => Δ1 b ++ [d]))
    (hsw : swapsWith (.DictComp kx vx [⟨tg, iter, [], 0⟩] scope pos) (some (.Name yv py)) spos.line X.env = pure true) (hy : X.N[i]? = some yv := by rfl) (hyl : X.env.scope.names.lookup yv = some .local := by rfl) (hcm : X.calm = true := by rfl) (hs : ∀ x, foldedSetIterable iter X.env x = pure x := by intro _; rfl) :
    PS X (.Assign [.Name yv py] (.DictComp kx vx [⟨tg, iter, [], 0⟩] scope pos) spos) (tAsg (tO true F Γ Δ T k (fun b => oMO D b.2) fun b => Δ1 b.1) (gName i)) :=
  (ps_setDc hcm nd hy hyl hsw hi ok hg (tt := fun σ H Q => Q true H) (fun _ _ _ _ _ => pts_nil) (tk := dcK F Γ own bd Δ1 f T2 ky) (fun s H Cc cl fp => ⟨fun pins s' σ H Q I ⟨d, b, x, h⟩ => (hk d s _ Cc cl fp b x).run pins s' σ H Q I h⟩) (tv := dcV F Γ own bd Δ1 T2 ky D y) (fun s H Cc cl fp => ⟨fun pins s' σ H Q I ⟨d, b, x, b2, h⟩ => (he d s _ Cc cl fp b x b2).run pins s' σ H Q I h⟩) hs).wk fun Dd σ H h => dc_imp ht σ H _ h
theorem a_M {st : Stmt} {i : Nat} {E : δ → Pd} {β : Type} {T : Option γ} {k : β → Option γ} {xs : β → List (κ × δ)} {Δ' : β → Δs} (h : PS X st (tAsg (tO true F Γ Δ T k (fun b => oMO (oF E) (xs b)) Δ') (gName i))) : PS X st (tAsg (tO true F Γ Δ T k (fun b => oM E (xs b)) Δ') (gName i)) :=
  h.wk fun D σ H ⟨ok, g, e, q⟩ => ⟨ok, g, e, fun b v H' kb st ok' => q b v H' kb st (ok'.ofd fun G H v h => oM_of h)⟩
end
end L3
end
section
set_option maxHeartbeats 4000000
set_option autoImplicit true
namespace L3
open PySem PySem.Spec PyProof.Rows L2
def pHL (ps : List Pd) : Pd where
  pr H v := ∃ a o vs, v = .ref a ∧ H a = some (.frz o (.lst vs)) ∧ ps.length ≤ sizeLine ∧ Paired (fun p u => Pd.pr p H u) ps vs
  mono := fun f ⟨a, o, vs, e, h, z, p⟩ => ⟨a, o, vs, e, f _ _ trivial h, z, paired_mono (fun x _ => x.mono f) p⟩
section
variable {X : Cx} {W : Bool} {F : Fm} {Γ : Gm} {Δ : Δs} {γ : Type}
section
variable {a : Expr} {n} {p pos : Pos} {β α1 α2 α3 α4 : Type} {T : Option γ} {k : β → Option γ} {Δ1 : β → Δs} {A : α1 → Pd} {B : α2 → Pd} {C : α3 → Pd} {D : α4 → Pd}
end
end
def oSmPr {α β : Type} (A : α → Od) (B : β → Od) : α ⊕ β → List Addr → Hp → V → Prop
  | .inl a => (A a).pr
  | .inr b => (B b).pr
def oSm {α β : Type} (A : α → Od) (B : β → Od) (x : α ⊕ β) : Od where
  pr := oSmPr A B x
  pd := pSm (fun a => (A a).pd) (fun b => (B b).pd) x
  frame := fun {G H H' v} h k f => by
    cases x with
    | inl a => exact (A a).frame h k f
    | inr b => exact (B b).frame h k f
  cells := fun {G H v} h => by
    cases x with
    | inl a => exact (A a).cells h
    | inr b => exact (B b).cells h
  lockd := fun {G H H1 v} h h1 h2 => by
    cases x with
    | inl a => exact (A a).lockd h h1 h2
    | inr b => exact (B b).lockd h h1 h2
section
variable {X : Cx} {W : Bool} {F : Fm} {Γ : Gm} {Δ : Δs} {γ : Type}
end
section
variable {X : Cx} {W : Bool} {F : Fm} {Γ : Gm} {Δ : Δs} {γ : Type} {κ α δ : Type} [DecidableEq κ] [Ky κ] [DecidableEq α] [DecidableEq δ]
variable {a b : Expr} {pos : Pos} {β1 β2 : Type} {T : Option γ} {k1 : β1 → Option γ} {k : β1 × β2 → Option γ} {Δ1 : β1 → Δs} {Δ2 : β1 → β2 → Δs} {E : α → Pd} {G : δ → Pd} {x : β1 → List α ⊕ List (κ × δ)} {y : β1 → β2 → List α ⊕ List (κ × δ)}
end
end L3
end
section
set_option maxHeartbeats 4000000
set_option autoImplicit true
namespace L3
open PySem PySem.Spec PyProof.Rows L2
theorem OkN.rebox {W : Bool} {F : Fm} {Γ : Gm} {Δ : Δs} {σ : SS} {H0 H H' : Hp} {v v' : V} {d d' : Od} (k : OkN W F Γ H0 v d Δ σ H) (g : Gr H H') (h : ∀ G, d.pr G H v → d'.pr G H' v') : OkN W F Γ H0 v' d' Δ σ H' := by
  obtain ⟨Δ0, G, e, k, nw, n⟩ := k
  have k2 := k.gr g
  refine ⟨Δ0, G, e, (k2.less (.cons _ (List.Sublist.refl _))).cons (c := ⟨G, v', d', none⟩) k.ndup.1 k.ndup.2.2 (h G (k.del _ List.mem_cons_self)) (fun a ha => k.own _ List.mem_cons_self a ha), nw, n.mono g.fzs⟩
section
variable {X : Cx} {W : Bool} {F : Fm} {Γ : Gm} {Δ : Δs} {γ : Type}
end
section
variable {X : Cx} {W : Bool} {F : Fm} {Γ : Gm} {Δ : Δs} {γ : Type} {κ α δ : Type} [DecidableEq κ] [Ky κ] [DecidableEq α] [DecidableEq δ]
variable {a b : Expr} {pos : Pos} {β1 β2 : Type} {T : Option γ} {k1 : β1 → Option γ} {k : β1 × β2 → Option γ} {Δ1 : β1 → Δs} {Δ2 : β1 → β2 → Δs} {E : α → Pd} {G : δ → Pd} {x : β1 → List α ⊕ List (κ × δ)} {y : β1 → β2 → List α ⊕ List (κ × δ)}
end
end L3
end
section
set_option maxHeartbeats 4000000
set_option autoImplicit true
namespace L3
open PySem PySem.Spec PyProof.Rows L2
def oOpPr {α : Type} (D : α → Od) : Option α → List Addr → Hp → V → Prop
  | none => fun G _ v => G = [] ∧ v = .non
  | some x => (D x).pr
def oOp {α : Type} (D : α → Od) (o : Option α) : Od where
  pr := oOpPr D o
  pd := pOp (fun x => (D x).pd) o
  frame := fun {G H H' v} h k f => by
    cases o with
    | none => exact h
    | some x => exact (D x).frame h k f
  cells := fun {G H v} h => by
    cases o with
    | none =>
      obtain ⟨e, _⟩ := h
      subst e
      exact fun _ h => absurd h List.not_mem_nil
    | some x => exact (D x).cells h
  lockd := fun {G H H1 v} h h1 h2 => by
    cases o with
    | none => exact h.2
    | some x => exact (D x).lockd h h1 h2
section
variable {X : Cx} {W : Bool} {F : Fm} {Γ : Gm} {Δ : Δs} {γ : Type}
variable {N : Fn γ} {rest : List Stmt}
section
variable {κ α : Type} [DecidableEq κ] [Ky κ] {a b : Expr} {apos cpos : Pos} {β1 β2 : Type} {T : Option γ} {k1 : β1 → Option γ} {Δ1 : β1 → Δs} {Δ2 : β1 → β2 → Δs} {E1 : β1 → Pd} {Ee : α → Pd} {xs : β1 → β2 → List (κ × α)} {j : β1 → β2 → κ}
end
end
end L3
end
section
set_option maxHeartbeats 4000000
set_option autoImplicit true
namespace L3
open PySem PySem.Spec PyProof.Rows L2
section
variable {X : Cx} {W : Bool} {F : Fm} {Γ : Gm} {Δ : Δs} {γ : Type}
variable {N : Fn γ} {rest : List Stmt}
end
end L3
end
section
set_option maxHeartbeats 4000000
set_option autoImplicit true
namespace L3
open PySem PySem.Spec PyProof.Rows L2
section
variable {X : Cx} {pins : List (Addr × Obj)} {σ : SS} {H : Hp} {s : Shared} {a C dx : Addr} {fs : List (Str × V)} {f : Str} {v : V} {A : Around} {E : Value → Shared → Prop}
end
section
variable {X : Cx} {CX : CXT} {k : Nat} {f : Addr} {fd : FuncData} {ps : List Str} {sp : Sp} {E : XK} {m : Str} {pos apos : Pos} {e o : Expr} {es : List Expr} {ta : TE} {t : TA}
end
section
variable {X : Cx} {W : Bool} {F : Fm} {Γ : Gm} {Δ : Δs} {γ : Type}
variable {N : Fn γ} {rest : List Stmt}
end
section
variable {X : Cx} {W : Bool} {F : Fm} {Γ : Gm} {Δ : Δs} {γ : Type}
end
end L3
end
section
set_option maxHeartbeats 4000000
set_option autoImplicit true
namespace L3
open PySem PySem.Spec PyProof.Rows L2
section
variable {X : Cx} {W : Bool} {F : Fm} {Γ : Gm} {Δ : Δs} {γ : Type}
section
variable {a : Expr} {pos p : Pos} {β α : Type} {T : Option γ} {Δ1 : β → Δs} {E1 : β → Pd} {Ee : α → Pd} {xs : β → List α} {k : β → Option γ}
end
section
variable {a b : Expr} {pos : Pos} {β1 β2 α : Type} {T : Option γ} {k1 : β1 → Option γ} {Δ1 : β1 → Δs} {Δ2 : β1 → β2 → Δs} {E1 : β1 → Pd} {Ee : α → Pd} {xs : β1 → List α} {j : β1 → β2 → Int}
end
section
variable {a : Expr} {lo hi : Option Expr} {p2 pos : Pos} {β1 β2 β3 α : Type} {T : Option γ} {k1 : β1 → Option γ} {k2 : β1 → β2 → Option γ} {k : β1 × β2 × β3 → Option γ} {Ee : α → Pd} {xs : β1 → List α} {o1 : β1 → β2 → Option Int} {o2 : β1 → β2 → β3 → Option Int} {Δ1 : β1 → Δs} {Δ2 : β1 → β2 → Δs} {Δ3 : β1 → β2 → β3 → Δs}
end
section
variable {a b : Expr} {pos : Pos} {β1 β2 α : Type} {T : Option γ} {k1 : β1 → Option γ} {k : β1 × β2 → Option γ} {Δ1 : β1 → Δs} {Δ2 : β1 → β2 → Δs} {Ee : α → Pd} {xs : β1 → List α} {ys : β1 → β2 → List α}
end
section
variable {a b : Expr} {pos : Pos} {β1 β2 α : Type} [DecidableEq α] {T : Option γ} {k1 : β1 → Option γ} {k : β1 × β2 → Option γ} {Δ1 : β1 → Δs} {Δ2 : β1 → β2 → Δs} {E : α → Pd} {x : β1 → α} {y : β1 → β2 → List α}
end
section
variable {o e : Expr} {apos cpos : Pos} {β1 β2 : Type} {T : Option γ} {k1 : β1 → Option γ} {Δ1 : β1 → Δs} {Δ2 : β1 → β2 → Δs} {xs : β1 → List Str} {y : β1 → β2 → Str}
end
end
end L3
end
section
set_option maxHeartbeats 4000000
set_option autoImplicit true
namespace L3
open PySem PySem.Spec PyProof.Rows L2
section
variable {X : Cx} {W : Bool} {F : Fm} {Γ : Gm} {Δ : Δs} {γ : Type}
section
variable {a : Expr} {pos p : Pos} {β : Type} {T : Option γ} {Δ1 : β → Δs} {E1 : β → Pd} {xs : β → List (List Int)} {k : β × List Int → Option γ}
end
end
end L3
end
section
set_option maxHeartbeats 4000000
set_option autoImplicit true
namespace L3
open PySem PySem.Spec PyProof.Rows L2
open PySem.AutoSeq1 (wpAny_loadPart')
section
variable {prog : Program} {w : World} {A : Around} {E : Value → Shared → Prop} {s : Shared}
end
section
variable {X : Cx} {W : Bool} {F : Fm} {Γ : Gm} {Δ : Δs} {γ : Type}
section
variable {a b : Expr} {pos : Pos} {β1 β2 α : Type} [DecidableEq α] {T : Option γ} {k1 : β1 → Option γ} {k : β1 × β2 → Option γ} {Δ1 : β1 → Δs} {Δ2 : β1 → β2 → Δs} {E : α → Pd} {x : β1 → α} {y : β1 → β2 → List α} {E2 : β1 → β2 → Pd}
end
end
end L3
end
section
set_option maxHeartbeats 4000000
set_option autoImplicit true
namespace L3
open PySem PySem.Spec PyProof.Rows L2
section
variable {X : Cx} {W : Bool} {F : Fm} {Γ : Gm} {Δ : Δs} {γ : Type} {a : Expr} {n p pos} {β α1 α2 α3 α4 α5 : Type} {T : Option γ} {k : β → Option γ} {A1 : α1 → Pd} {A2 : α2 → Pd} {A3 : α3 → Pd} {A4 : α4 → Pd} {A5 : α5 → Pd} {Δ1 : β → Δs} {x : β → α1 × α2 × α3 × α4 × α5}
end
section
variable {X : Cx} {W : Bool} {F : Fm} {Γ : Gm} {Δ : Δs} {γ : Type} {a : Expr} {n p pos} {β α1 α2 α3 α4 α5 α6 : Type} {T : Option γ} {k : β → Option γ} {A1 : α1 → Pd} {A2 : α2 → Pd} {A3 : α3 → Pd} {A4 : α4 → Pd} {A5 : α5 → Pd} {A6 : α6 → Pd} {Δ1 : β → Δs} {x : β → α1 × α2 × α3 × α4 × α5 × α6}
end
section
variable {X : Cx} {W : Bool} {F : Fm} {Γ : Gm} {Δ : Δs} {γ : Type} {a : Expr} {n p pos} {β α1 α2 α3 α4 α5 α6 α7 : Type} {T : Option γ} {k : β → Option γ} {A1 : α1 → Pd} {A2 : α2 → Pd} {A3 : α3 → Pd} {A4 : α4 → Pd} {A5 : α5 → Pd} {A6 : α6 → Pd} {A7 : α7 → Pd} {Δ1 : β → Δs} {x : β → α1 × α2 × α3 × α4 × α5 × α6 × α7}
end
section
variable {X : Cx} {W : Bool} {F : Fm} {Γ : Gm} {Δ : Δs} {γ : Type}
section
variable {a : Expr} {n p p2 pos : Pos} {β α δ : Type} {T : Option γ} {k : β → Option γ} {E : α → Pd} {G : δ → Pd} {Δ1 : β → Δs}
end
variable {N : Fn γ} {rest : List Stmt}
end
end L3
end
section
set_option maxHeartbeats 4000000
set_option autoImplicit true
namespace L3
open PySem PySem.Spec PyProof.Rows L2 PySem.SxX
section
variable {X : Cx} {W : Bool} {F : Fm} {Γ : Gm} {Δ : Δs} {γ : Type}
end
section
variable {X : Cx} {CX : CXT} {k : Nat} {f C : Addr} {fd : FuncData} {ps : List Str} {sp : Sp} {x : Str} {p pos : Pos} {e : Expr} {es : List Expr} {t : TA}
end
section
variable {X : Cx} {W : Bool} {F : Fm} {Γ : Gm} {Δ : Δs} {γ ε : Type}
variable {fI : Addr} {kk : Nat} {fd : FuncData} {ps : List Str} {α ρ β : Type} {cn : Str} {A : α → List Pd} {Mf : α → Option (Except ε ρ)} {ns : List Str} {R : ρ → List Pd} {C : Addr} {p pos : Pos} {e : Expr} {es : List Expr} {T : Option γ} {xs : β → α} {kc : β × ρ → Option γ} {D : β × ρ → Od} {Kx : Xk ε}
end
section
variable {X : Cx} {F : Fm} {Γ : Gm} {Δ : Δs} {γ ε : Type} {N : Fn γ} {rest : List Stmt} {ιx : ε → γ} {Kx : Xk ε} {Δx : Δs} {Nx : SS → Hp → Prop} {Wx : WX}
end
end L3
end
section
set_option maxHeartbeats 4000000
set_option autoImplicit true
namespace L3
open PySem PySem.Spec PyProof.Rows L2
section
variable {X : Cx} {W : Bool} {F : Fm} {Γ : Gm} {Δ : Δs} {γ : Type}
end
section
variable {X : Cx} {W : Bool} {F : Fm} {Γ : Gm} {Δ : Δs} {γ : Type} {a : Expr} {pos p : Pos} {β : Type} {T : Option γ} {Δ1 : β → Δs} {E1 : β → Pd} {xs : β → List Int} {k : β × Int → Option γ}
end
end L3
end
section
set_option maxHeartbeats 4000000
set_option autoImplicit true
namespace L3
open PySem PySem.Spec PyProof.Rows L2 PySem.SxX
section
variable {X : Cx} {W : Bool} {F : Fm} {Γ : Gm} {Δ : Δs} {γ : Type}
theorem Ok.swap {σ : SS} {H H' H0 : Hp} {v v' : V} {d d' : Od} (ok : Ok F Γ (⟨v, d, none⟩ :: Δ) σ H) (g : Gr H H') (h : ∀ G, d.pr G H v → G.Nodup → ∃ G' : List Addr, G'.Nodup ∧ (∀ a ∈ G', a ∈ G ∨ H a = none) ∧ d'.pr G' H' v') : OkN true F Γ H0 v' d' Δ σ H' := by
  obtain ⟨⟨Δ0, e, k⟩, n⟩ := ok
  cases Δ0 with
  | nil => cases e
  | cons c0 R =>
    have e1 : c0.fg :: R.map Cel.fg = ⟨v, d, none⟩ :: Δ := e
    injection e1 with e2 e3
    subst e3
    obtain ⟨G, cv, cd, cp⟩ := c0
    have f1 : cv = v := congrArg Cell.v e2
    have f2 : cd = d := congrArg Cell.d e2
    have f3 : cp = none := congrArg Cell.prm e2
    subst f1 f2 f3
    obtain ⟨G', nd', sub, hd'⟩ := h G (k.del _ List.mem_cons_self) k.ndup.1
    refine ⟨R, G', rfl, ((k.gr g).less (.cons _ (List.Sublist.refl R))).cons (c := ⟨G', v', d', none⟩) nd' (fun a ha hb => ?_) hd' (fun a ha => ?_), (fun z => nomatch z), n.mono g.fzs⟩
    · rcases sub a ha with z | z
      · exact k.ndup.2.2 a z hb
      · obtain ⟨o, eo, _⟩ := k.isC (a := a) (by rw [cellsOf_cons]; exact List.mem_append_right _ hb)
        rw [z] at eo; cases eo
    · rcases sub a ha with z | z
      · exact k.own _ List.mem_cons_self a z
      · exact .inl (k.fresh0 z)
theorem Own3.take {α : Type} {D : α → Od} {H : Hp} : ∀ (m : Nat) {xs : List α} {vs : List V} {gs : List (List Addr)}, Own3 D H xs vs gs → ∃ g2, Own3 D H (xs.take m) (vs.take m) g2 ∧ g2.flatten.Sublist gs.flatten
  | 0, _, _, _, _ => ⟨[], .nil, List.nil_sublist _⟩
  | _ + 1, _, _, _, .nil => ⟨[], .nil, List.nil_sublist _⟩
  | m + 1, _, _, _, .cons r t => by
    obtain ⟨g2, h, s⟩ := t.take m
    exact ⟨_ :: g2, .cons r h, by rw [List.flatten_cons, List.flatten_cons]; exact List.Sublist.append (List.Sublist.refl _) s⟩
theorem Own3.drop {α : Type} {D : α → Od} {H : Hp} : ∀ (m : Nat) {xs : List α} {vs : List V} {gs : List (List Addr)}, Own3 D H xs vs gs → ∃ g2, Own3 D H (xs.drop m) (vs.drop m) g2 ∧ g2.flatten.Sublist gs.flatten
  | 0, _, _, gs, h => ⟨gs, h, List.Sublist.refl _⟩
  | _ + 1, _, _, _, .nil => ⟨[], .nil, List.nil_sublist _⟩
  | m + 1, _, _, _, .cons r t => by
    obtain ⟨g2, h, s⟩ := t.drop m
    exact ⟨g2, h, by rw [List.flatten_cons]; exact s.trans (List.sublist_append_right _ _)⟩
def pHT (ps : List Pd) : Pd where
  pr H v := ∃ a vs, v = .ref a ∧ H a = some (.tup vs) ∧ Paired (fun p u => Pd.pr p H u) ps vs
  mono := fun f ⟨a, vs, e, h, p⟩ => ⟨a, vs, e, f _ _ trivial h, paired_mono (fun x _ => x.mono f) p⟩
section
variable {a : Expr} {n} {p pos : Pos} {β α1 α2 α3 α4 α5 : Type} {T : Option γ} {k : β → Option γ} {Δ1 : β → Δs} {A : α1 → Pd} {B : α2 → Pd} {C : α3 → Pd} {D : α4 → Pd} {E : α5 → Pd}
end
end
section
variable {P : Pd → V → Prop} {gV : List V → List V → List V} {As : List Pd} {vs zs : List V}
end
section
variable {X : Cx} {CX : CXT} {k n : Nat} {f C : Addr} {fd : FuncData} {ps ks : List Str} {sp : Sp} {x : Str} {p pos : Pos} {e : Expr} {es : List Expr} {kws : List Keyword} {t tk : TA} {g : List Value → List Value → List Value} {gV : List V → List V → List V}
theorem _root_.L2.PK.wk {t t' : TA} (h : PK X kws t) (w : ∀ σ H Q, t' σ H Q → t σ H Q) : PK X kws t' := ⟨fun pos pins s σ H Q I q => h.run pos pins s σ H Q I (w σ H Q q)⟩
end
section
variable {X : Cx} {W : Bool} {F : Fm} {Γ : Gm} {Δ : Δs} {γ ε : Type}
variable {fI : Addr} {kk n : Nat} {fd : FuncData} {ps ks : List Str} {α ρ β1 β2 : Type} {cn : Str} {A : α → List Pd} {Mf : α → Option (Except ε ρ)} {ns : List Str} {R : ρ → List Pd} {C : Addr} {p pos : Pos} {e : Expr} {es : List Expr} {kws : List Keyword} {T : Option γ} {kc : (β1 × β2) × ρ → Option γ} {D : (β1 × β2) × ρ → Od} {Kx : Xk ε} {g : List Value → List Value → List Value} {gV : List V → List V → List V}
end
end L3
end
section
set_option maxHeartbeats 4000000
set_option autoImplicit true
namespace L3
open PySem PySem.Spec PyProof.Rows L2 PySem.SxX L2H
structure FnQ (P : Program) (w : World) (K : PySem.W.Frag) (mg : Str → Option Value) (base : Heap) (CX : CXT) (k : Nat) (f : Addr) (fd : FuncData) (ps : List Str) (sp : Sp) : Prop where
  sz : ∀ vs H Q E, sp vs H Q E → vs.length = ps.length
  go : ∀ (A : Around) (outer : List Env) (s : Shared) (H : Hp) (args : Args) (us : List Value) (vs : List V) (Q : VK) (E : XK) (p : Addr × Obj), RoomH k A → PinOk outer H s p → Env0 P w K mg base A outer s H → BindsTo s fd args (ps.zip us) → Vals vs us → sp vs H Q E → codeAny (model P w) A (.call (.ref f) args) (CR CX outer P w H s Q E) s
section
variable {P : Program} {w : World} {K : PySem.W.Frag} {mg : Str → Option Value} {base : Heap} {CX : CXT} {k : Nat} {f : Addr} {fd : FuncData} {N ps : List Str} {sp : Sp} {x qual : Str} {params : Arguments} {body : List Stmt} {scope : Scope} {dvs : List V} {kws : List (Str × V)}
end
section
variable {X : Cx} {CX : CXT} {k : Nat} {f : Addr} {fd : FuncData} {ps : List Str} {sp : Sp}
end
section
variable {X : Cx} {W : Bool} {F : Fm} {Γ : Gm} {Δ : Δs} {γ : Type}
end
end L3
end
section
set_option maxHeartbeats 4000000
set_option autoImplicit true
namespace L3
open PySem PySem.Spec PyProof.Rows L2
section
variable {X : Cx} {W : Bool} {F : Fm} {Γ : Gm} {Δ : Δs} {γ : Type}
theorem Foc.inl {α β : Type} {d : Od} {v : V} {A : α → Od} {B : β → Od} {x : α ⊕ β} {back : α ⊕ β → Od} {u : V} {H : Hp} {y : α} (f : Foc d v (oSm A B) x back u H) (e : x = .inl y) : Foc d v A y (fun y => back (.inl y)) u H := fun H1 G g1 hd nd => by
  subst e
  obtain ⟨G2, h, sb, nd2, tr⟩ := f H1 G g1 hd nd
  exact ⟨G2, h, sb, nd2, fun H' y G3 kp fz nd3 ds h3 => tr H' (.inl y) G3 kp fz nd3 ds h3⟩
theorem Foc.inr {α β : Type} {d : Od} {v : V} {A : α → Od} {B : β → Od} {x : α ⊕ β} {back : α ⊕ β → Od} {u : V} {H : Hp} {y : β} (f : Foc d v (oSm A B) x back u H) (e : x = .inr y) : Foc d v B y (fun y => back (.inr y)) u H := fun H1 G g1 hd nd => by
  subst e
  obtain ⟨G2, h, sb, nd2, tr⟩ := f H1 G g1 hd nd
  exact ⟨G2, h, sb, nd2, fun H' y G3 kp fz nd3 ds h3 => tr H' (.inr y) G3 kp fz nd3 ds h3⟩
end
end L3
end
section
set_option maxHeartbeats 4000000
set_option autoImplicit true
namespace L3
open PySem PySem.Spec PyProof.Rows L2
theorem paired_pd {H : Hp} : ∀ {ds : List Od} {vs : List V}, Paired (fun d u => (Od.pd d).pr H u) ds vs → Paired (fun p u => Pd.pr p H u) (ds.map Od.pd) vs
  | _, _, .nil => .nil
  | _, _, .cons r t => .cons r (paired_pd t)
section
variable {X : Cx} {W : Bool} {F : Fm} {Γ : Gm} {Δ : Δs} {γ : Type}
variable {N : Fn γ} {rest : List Stmt}
end
section
variable {X : Cx} {W : Bool} {F : Fm} {Γ : Gm} {Δ : Δs} {γ : Type}
end
end L3
end
section
set_option maxHeartbeats 4000000
set_option autoImplicit true
namespace L3
open PySem PySem.Spec PyProof.Rows L2
section
variable {X : Cx} {W : Bool} {F : Fm} {Γ : Gm} {Δ : Δs} {γ : Type}
section
variable {a b : Expr} {pos : Pos} {β1 β2 : Type} {T : Option γ} {k1 : β1 → Option γ} {k : β1 × β2 → Option γ} {Δ1 : β1 → Δs} {Δ2 : β1 → β2 → Δs} {xs : β1 → List Int} {ys : β1 → β2 → List Int}
end
end
end L3
end
section
set_option maxHeartbeats 4000000
namespace L3
open PySem PySem.Spec PyProof.Rows L2
section
variable {prog : Program} {w : World} {A : Around} {R : Result → Shared → Prop} {s : Shared} {kx vx t0 i0 t1 i1 : Expr} {ifs0 ifs1 : List Expr} {scope : Scope} {pos : Pos} {it acc : Value} {env : Env}
end
end L3
end
section
set_option maxHeartbeats 4000000
namespace L3
open PySem PySem.Spec PyProof.Rows L2
section
variable {X : Cx}
end
end L3
end
section
set_option maxHeartbeats 4000000
namespace L3
open PySem PySem.Spec PyProof.Rows L2
section
variable {κ δ : Type} [DecidableEq κ] [Ky κ]
variable {X : Cx} {F : Fm} {Γ : Gm} {Δ : Δs} {γ : Type}
variable {α α2 β β4 β5 β6 : Type} {g g2 : TG} {own : List (Str × Nat)} {vs1 : List Nat} {T : Option γ} {k : β × List (κ × δ) → Option γ} {Ex : α → Pd} {Ex2 : α2 → Pd} {D : δ → Od} {bd : Gm → α → Gm} {bd2 : Gm → α2 → Gm} {xs : β → List α} {C : β → Δs} {f : β → α → Option (List (κ × δ))}
    {ys : β → α → β4 → List α2} {h : β → α → β4 → α2 → Option (κ × δ)} {T2 : β → α → β4 → α2 → β5 → Option (κ × δ)} {ky : β → α → β4 → α2 → β5 → κ} {vy : β → α → β4 → α2 → β5 → β6 → δ}
end
end L3
namespace L3
open PySem PySem.Spec PyProof.Rows L2
section
variable {X : Cx} {W : Bool} {F : Fm} {Γ : Gm} {Δ : Δs} {γ : Type}
end
end L3
end
section
set_option maxHeartbeats 4000000
set_option autoImplicit true
namespace L3
open PySem PySem.Spec PyProof.Rows L2
section
variable {X : Cx} {W : Bool} {F : Fm} {Γ : Gm} {Δ : Δs} {γ : Type}
end
end L3
end
section
set_option maxHeartbeats 4000000
set_option autoImplicit true
namespace L3
open PySem PySem.Spec PyProof.Rows L2
def oFp (p : Pd) : Od := oF (fun _ : Unit => p) ()
def oLH (ds : List Od) : Od where
  pr := (oLO (fun d : Od => d) ds).pr
  pd := pHL (ds.map Od.pd)
  frame := (oLO (fun d : Od => d) ds).frame
  cells := (oLO (fun d : Od => d) ds).cells
  lockd := fun h h1 h2 => by
    obtain ⟨a, o, vs, e, hh, z, p⟩ := (oLO (fun d : Od => d) ds).lockd h h1 h2
    exact ⟨a, o, vs, e, hh, by rw [List.length_map]; exact z, paired_pd p⟩
section
variable {X : Cx} {W : Bool} {F : Fm} {Γ : Gm} {Δ : Δs} {γ : Type}
variable {N : Fn γ}
theorem x_dispLH {es : List Expr} {pos : Pos} {β : Type} {T : Option γ} {k : β → Option γ} {ds : β → List Od} {Δ1 : β → Δs} (ha : PA X es (tArO F Γ Δ T k (fun d : Od => d) ds Δ1)) (hz : ∀ b, (ds b).length ≤ 1000) : PE X (.List es pos) (tO true F Γ Δ T k (fun b => oLH (ds b)) Δ1) :=
  (x_dispO ha hz).wk fun σ H Q ⟨ok, g, e, q⟩ => ⟨ok, g, e, fun b v H' kb f okn => q b v H' kb f (okn.rebox (Gr.refl _) fun _ h => h)⟩
end
end L3
end
section
set_option maxHeartbeats 4000000
set_option autoImplicit true
namespace L3
open PySem PySem.Spec PyProof.Rows L2
section
variable {α β α' β' δ : Type} {E : α → Pd} {G : β → Pd} {E' : α' → Pd} {G' : β' → Pd} {D : δ → Pd}
end
section
variable {X : Cx} {W : Bool} {F : Fm} {Γ : Gm} {Δ : Δs} {γ : Type}
theorem Foc.op {α : Type} {d : Od} {v : V} {A : α → Od} {x : Option α} {back : Option α → Od} {u : V} {H : Hp} {y : α} (f : Foc d v (oOp A) x back u H) (e : x = some y) : Foc d v A y (fun y => back (some y)) u H := fun H1 G g1 hd nd => by
  subst e
  obtain ⟨G2, h, sb, nd2, tr⟩ := f H1 G g1 hd nd
  exact ⟨G2, h, sb, nd2, fun H' y G3 kp fz nd3 ds h3 => tr H' (some y) G3 kp fz nd3 ds h3⟩
section
variable {α β : Type} {E : α → Pd} {G : β → Pd} {A : α → Od} {B : β → Od}
end
section
variable {a b : Expr} {pos p : Pos} {β1 β2 : Type} {T : Option γ} {k1 : β1 → Option γ} {k : β1 × β2 → Option γ} {c : β1 → Bool} {d : β1 → β2 → Bool} {Δ1 : β1 → Δs} {Δ2 : β1 → β2 → Δs}
end
end
end L3
end
section
set_option maxHeartbeats 4000000
set_option autoImplicit true
namespace L3
open PySem PySem.Spec PyProof.Rows L2
section
variable {α β δ α' : Type} {A : α → Od} {B : β → Od} {D : δ → Od} {E : α → Pd} {E' : α' → Pd}
end
section
variable {X : Cx} {W : Bool} {F : Fm} {Γ : Gm} {Δ : Δs} {γ : Type}
end
end L3
end
section
set_option maxHeartbeats 4000000
set_option autoImplicit true
namespace L3
open PySem PySem.Spec PyProof.Rows L2
section
variable {X : Cx} {W : Bool} {F : Fm} {Γ : Gm} {Δ : Δs} {γ : Type}
section
variable {α β β2 β3 δ S : Type} {g : TG} {own : List (Str × Nat)} {T : Option γ} {k0 : β → Option γ} {k : β × (List δ × S) → Option γ} {out : β × (List δ × S) → List δ} {Ex : α → Pd} {Ee : δ → Pd} {bd : Gm → α → Gm} {xs : β → List α} {Δ1 : β → Δs} {C : β → S → Δs} {s0 : β → S} {f : β → α → S → Option (Option δ × S)}
    {c : β → α → S → β2 → Bool} {s2 : β → α → S → β2 → S} {T2 : β → α → S → β2 → Option (Option δ × S)} {y : β → α → S → β2 → β3 → δ} {s3 : β → α → S → β2 → β3 → S}
end
end
end L3
end
section
set_option maxHeartbeats 4000000
set_option autoImplicit true
namespace L3
open PySem PySem.Spec PyProof.Rows L2
section
variable {X : Cx} {W : Bool} {F : Fm} {Γ : Gm} {Δ : Δs} {γ : Type}
section
variable {a b : Expr} {pos : Pos} {β1 β2 : Type} {T : Option γ} {k1 : β1 → Option γ} {k : β1 × β2 → Option γ} {Δ1 : β1 → Δs} {Δ2 : β1 → β2 → Δs} {i : β1 → Int} {v0 : V} {xs : β1 → β2 → List Int} {prm : Option Nat}
end
variable {α ρ β1 β2 : Type} {fI : Addr} {kk n : Nat} {fd : FuncData} {ps ks : List Str} {cn : Str} {A : α → List Pd} {Mf : α → Option ρ} {ns : List Str} {R : ρ → List Pd} {C : Addr} {p pos : Pos} {e : Expr} {es : List Expr} {kws : List Keyword} {T : Option γ} {kc : (β1 × β2) × ρ → Option γ} {D : (β1 × β2) × ρ → Od} {g : List Value → List Value → List Value} {gV : List V → List V → List V}
end
end L3
end
section
set_option maxHeartbeats 4000000
set_option autoImplicit true
namespace L3
open PySem PySem.Spec PyProof.Rows L2
section
variable {X : Cx} {W : Bool} {F : Fm} {Γ : Gm} {Δ : Δs} {γ : Type}
theorem t_dl {β : Type} {e : Expr} {T : Option γ} {k : β → Option γ} {c : β → Bool} {Δ' Δ'' : β → Δs} (h : PT X e (tTs W F Γ Δ T k c Δ'')) (hD : ∀ b, Δ' b = Δ'' b := by intro _; rfl) : PT X e (tTs W F Γ Δ T k c Δ') := by
  have e1 : Δ' = Δ'' := funext hD
  subst e1
  exact h
end
end L3
end
section
set_option maxHeartbeats 4000000
set_option autoImplicit true
namespace L3
open PySem PySem.Spec PyProof.Rows L2
section
variable {X : Cx} {W : Bool} {F : Fm} {Γ : Gm} {Δ : Δs} {γ : Type}
end
end L3
end
section
set_option maxHeartbeats 1000000
namespace L3
open PySem PySem.Spec PyProof.Rows L2 RZ
open PySem.Sem (wp)
section
variable {w : World} {prog : Program} {s : Shared} {A : Around} {E : Value → Shared → Prop}
end
section
variable {w : World} {prog : Program} {s : Shared} {A : Around} {E : Value → Shared → Prop}
end
section
variable {X : Cx} {W : Bool} {F : Fm} {Γ : Gm} {Δ : Δs} {γ : Type}
end
end L3
end
section
set_option maxHeartbeats 4000000
set_option autoImplicit true
namespace L3
open PySem PySem.Spec PyProof.Rows L2
theorem ht2 {α β : Type} {A : α → Pd} {B : β → Pd} {x : α × β} {H : Hp} {v : V} (h : (pT2 A B x).pr H v) : (pHT [A x.1, B x.2]).pr H v := by
  obtain ⟨a, u, w, e, h, p, q⟩ := h
  exact ⟨a, [u, w], e, h, .cons p (.cons q .nil)⟩
theorem ht3 {α β γ : Type} {A : α → Pd} {B : β → Pd} {C : γ → Pd} {x : α × β × γ} {H : Hp} {v : V} (h : (pT3 A B C x).pr H v) : (pHT [A x.1, B x.2.1, C x.2.2]).pr H v := by
  obtain ⟨a, u, w, z, e, h, p, q, r⟩ := h
  exact ⟨a, [u, w, z], e, h, .cons p (.cons q (.cons r .nil))⟩
section
variable {α1 α2 α3 α4 α5 : Type} {A : α1 → Pd} {B : α2 → Pd} {C : α3 → Pd} {D : α4 → Pd} {E : α5 → Pd}
end
section
variable {X : Cx} {W : Bool} {F : Fm} {Γ : Gm} {Δ : Δs} {γ : Type}
end
structure Dh {α : Type} (ps : α → List Pd) where
  n : Nat
  len : ∀ x, (ps x).length = n
  dep : Nat
  ok : α → α → Bool
  eqv : α → α → Bool
  e : α → α → Nat → Bool
  es : ∀ x y, (List.range n).all (e x y) = eqv x y
  rc : ∀ {X : Cx} {pins : List (Addr × Obj)} {σ : SS} {H : Hp} {s : Shared}, Inv X pins σ H s → ∀ A : Around, A.units + dep < cLine → ∀ x y, ok x y = true → ∀ j p q, (ps x)[j]? = some p → (ps y)[j]? = some q → ∀ v u v' u', p.pr H v → q.pr H u → RelV v v' → RelV u u' → SeqAt.EqP X.prog X.w A.in1 s v' u' (e x y j)
  same : ∀ (H : Hp) x y vs, ok x y = true → Paired (fun p u => Pd.pr p H u) (ps x) vs → Paired (fun p u => Pd.pr p H u) (ps y) vs → eqv x y = true
section
variable {α1 α2 α3 α4 α5 : Type} {A : α1 → Pd} {B : α2 → Pd} {C : α3 → Pd} {D : α4 → Pd} {E : α5 → Pd}
end
section
variable {X : Cx} {W : Bool} {F : Fm} {Γ : Gm} {Δ : Δs} {γ : Type} {a b : Expr} {pos : Pos} {β1 β2 : Type} {T : Option γ} {k1 : β1 → Option γ} {k : β1 × β2 → Option γ} {Δ1 : β1 → Δs} {Δ2 : β1 → β2 → Δs}
end
section
variable {X : Cx} {W : Bool} {F : Fm} {Γ : Gm} {Δ : Δs} {γ : Type} {a b : Expr} {pos : Pos} {α β1 β2 : Type} {Ee : α → Pd} {T : Option γ} {k1 : β1 → Option γ} {k : β1 × β2 → Option γ} {Δ1 : β1 → Δs} {Δ2 : β1 → β2 → Δs}
end
section
variable {X : Cx} {W : Bool} {F : Fm} {Γ : Gm} {Δ : Δs} {γ : Type}
end
end L3
end
section
set_option maxHeartbeats 4000000
set_option autoImplicit true
namespace L3
open PySem PySem.Spec PyProof.Rows L2
section
variable {X : Cx} {W : Bool} {F : Fm} {Γ : Gm} {Δ : Δs} {γ ε : Type}
variable {fI : Addr} {kk : Nat} {fd : FuncData} {ps : List Str} {α ρ β : Type} {cn : Str} {A : α → List Pd} {Mf : α → Option (Except ε ρ)} {ns : List Str} {R : ρ → List Od} {C : Addr} {p pos : Pos} {e : Expr} {es : List Expr} {T : Option γ} {xs : β → α} {kc : β × ρ → Option γ} {D : β × ρ → Od} {Kx : Xk ε}
end
section
variable {X : Cx} {F : Fm} {Γ : Gm} {Δ : Δs} {γ ε : Type} {N : Fn γ} {rest : List Stmt} {ιx : ε → γ} {Kx : Xk ε} {Δx : Δs} {Nx : SS → Hp → Prop} {Wx : WX}
end
section
variable {X : Cx} {W : Bool} {F : Fm} {Γ : Gm} {Δ : Δs} {γ : Type}
variable {N : Fn γ}
end
section
variable {X : Cx} {W : Bool} {F : Fm} {Γ : Gm} {Δ : Δs} {γ : Type}
end
end L3
end
section
set_option maxHeartbeats 4000000
namespace L3
open PySem PySem.Spec PyProof.Rows L2
section
variable {Δ : Δs}
end
section
variable {X : Cx} {W : Bool} {F : Fm} {Γ : Gm} {Δ : Δs} {γ : Type}
end
section
variable {κ α : Type} [DecidableEq κ] [Ky κ] {X : Cx} {W : Bool} {F : Fm} {Γ : Gm} {Δ : Δs} {γ : Type} {N : Fn γ} {rest : List Stmt}
end
section
variable {X : Cx} {W : Bool} {F : Fm} {Γ : Gm} {Δ : Δs} {γ β : Type} {N : Fn γ} {rest : List Stmt}
end
end L3
end
section
set_option maxHeartbeats 4000000
namespace L3
open PySem PySem.Spec PyProof.Rows L2
section
variable {κ : Type} [DecidableEq κ] [Ky κ] {X : Cx} {F : Fm} {Γ : Gm} {Δ : Δs} {γ : Type}
end
section
variable {X : Cx} {F : Fm} {Γ : Gm} {Δ : Δs} {γ : Type}
end
section
variable {α1 α2 α3 : Type} {A : α1 → Pd} {B : α2 → Pd} {C : α3 → Pd}
end
section
variable {X : Cx} {W : Bool} {F : Fm} {Γ : Gm} {Δ : Δs} {γ : Type} {a b : Expr} {pos : Pos} {β1 β2 α : Type} {T : Option γ} {k1 : β1 → Option γ} {k : β1 × β2 → Option γ} {Δ1 : β1 → Δs} {Δ2 : β1 → β2 → Δs} {E : α → Pd} {x : β1 → α} {y : β1 → β2 → α}
end
end L3
end
section
set_option maxHeartbeats 4000000
namespace L3
open PySem PySem.Spec PyProof.Rows L2
section
variable {κ δ : Type} [DecidableEq κ] [Ky κ] {X : Cx} {F : Fm} {Γ : Gm} {Δ : Δs} {γ : Type}
def dcF {α : Type} : List α → List (κ × δ) → (α → Option (Option (κ × δ))) → Option (List (κ × δ))
  | [], acc, _ => some acc
  | x :: xs, acc, f => (f x).bind fun o => match o with
    | none => dcF xs acc f
    | some p => dcF xs (dput acc p.1 p.2) f
variable {α β β2 β3 β4 : Type} {g : TG} {own : List (Str × Nat)} {T : Option γ} {k : β × List (κ × δ) → Option γ} {Ex : α → Pd} {D : δ → Od} {bd : Gm → α → Gm} {xs : β → List α} {Δ1 : β → Δs} {f : β → α → Option (Option (κ × δ))} {c : β → α → β2 → Bool} {T2 : β → α → β2 → Option (Option (κ × δ))} {T3 : β → α → β2 → β3 → Option (Option (κ × δ))} {ky : β → α → β2 → β3 → κ} {y : β → α → β2 → β3 → β4 → δ}
end
end L3
end
section
set_option maxHeartbeats 4000000
namespace L3
open PySem PySem.Spec PyProof.Rows L2
section
variable {κ δ : Type} [DecidableEq κ] [Ky κ] {X : Cx} {W : Bool} {F : Fm} {Γ : Gm} {Δ : Δs} {γ : Type}
theorem Hk.oneW {H H2 : Hp} {E : δ → Pd} {acc : List (κ × δ)} {Da : Addr} {σ : SS} (k : Hk F (⟨.ref Da, oM E acc, none⟩ :: Δ) H2) (n : Nm Γ σ H2) (hn : W = false → H Da = none) : OkN W F Γ H (.ref Da) (oM E acc) Δ σ H2 := by
  obtain ⟨Δ0, e, k⟩ := k
  match Δ0, e, k with
  | c1 :: R, e, k =>
    obtain ⟨G1, v1, d1, p1⟩ := c1
    have e' : (⟨v1, d1, p1⟩ : Cell) = ⟨.ref Da, oM E acc, none⟩ ∧ R.map Cel.fg = Δ := by simpa [Cel.fg] using e
    obtain ⟨e1, e2⟩ := e'
    cases e1
    refine ⟨R, G1, e2, k, fun w a ha => ?_, n⟩
    obtain ⟨p, vs, eG, ev, _⟩ := k.del _ List.mem_cons_self
    have eG : G1 = [p] := eG
    have ev : V.ref Da = .ref p := ev
    cases ev
    rw [eG] at ha
    rw [List.mem_singleton.mp ha]
    exact hn w
variable {α β β2 β3 β4 : Type} {g : TG} {own : List (Str × Nat)} {T : Option γ} {k : β × List (κ × δ) → Option γ} {Ex : α → Pd} {E : δ → Pd} {bd : Gm → α → Gm} {xs : β → List α} {Δ1 : β → Δs} {f : β → α → Option (Option (κ × δ))} {c : β → α → β2 → Bool} {T2 : β → α → β2 → Option (Option (κ × δ))} {T3 : β → α → β2 → β3 → Option (Option (κ × δ))} {ky : β → α → β2 → β3 → κ} {y : β → α → β2 → β3 → β4 → δ}
abbrev dwC (W : Bool) (F : Fm) (Γ : Gm) (own : List (Str × Nat)) (bd : Gm → α → Gm) (C : β → Δs) (f : β → α → Option (Option (κ × δ))) (c : β → α → β2 → Bool) (T2 : β → α → β2 → Option (Option (κ × δ))) : TT := fun σ H Q => ∃ d b x, tTs W F (bd (wipeG Γ (own.map (·.2))) x) (C b ++ [d]) (f b x) (fun b2 => if c b x b2 = true then T2 b x b2 else some none) (c b x) (fun _ => C b ++ [d]) σ H Q
abbrev dwK (W : Bool) (F : Fm) (Γ : Gm) (own : List (Str × Nat)) (bd : Gm → α → Gm) (C : β → Δs) (T2 : β → α → β2 → Option (Option (κ × δ))) (T3 : β → α → β2 → β3 → Option (Option (κ × δ))) (ky : β → α → β2 → β3 → κ) : TE := fun σ H Q => ∃ d b x b2, tE W F (bd (wipeG Γ (own.map (·.2))) x) (C b ++ [d]) (T2 b x b2) (T3 b x b2) (fun b3 => Ky.kp (ky b x b2 b3)) (fun _ => C b ++ [d]) σ H Q
abbrev dwV (W : Bool) (F : Fm) (Γ : Gm) (own : List (Str × Nat)) (bd : Gm → α → Gm) (C : β → Δs) (T3 : β → α → β2 → β3 → Option (Option (κ × δ))) (ky : β → α → β2 → β3 → κ) (E : δ → Pd) (y : β → α → β2 → β3 → β4 → δ) : TE := fun σ H Q => ∃ d b x b2 b3, tE W F (bd (wipeG Γ (own.map (·.2))) x) (C b ++ [d]) (T3 b x b2 b3) (fun b4 => some (some (ky b x b2 b3, y b x b2 b3 b4))) (fun b4 => E (y b x b2 b3 b4)) (fun _ => C b ++ [d]) σ H Q
theorem dcw_imp (ht : TgtW g Ex bd (own.map (·.2))) :
    ∀ σ H Q, tO W F Γ Δ T k (fun b => oM E b.2) (fun b => Δ1 b.1) σ H Q → tDc (tI W F Γ Δ T (fun b => (dcF (xs b) [] (f b)).bind fun r => k (b, r)) Ex xs Δ1) g (dwC W F Γ own bd Δ1 f c T2) (dwK W F Γ own bd Δ1 T2 T3 ky) (dwV W F Γ own bd Δ1 T3 ky E y) (own.map (·.2)) σ H Q :=
  fun σ H Q ⟨ok0, gg, e, q⟩ => ⟨ok0, gg, e, fun b J H1 kb f1 ok1 zl wk Da nD => by
    obtain ⟨r, er, kr⟩ := bind_some kb
    have grD : Gr H1 (upd H1 Da (.dK [])) := Gr.new nD
    have hk0 : Hk F (Δ1 b ++ [⟨.ref Da, oM (κ := κ) E [], none⟩]) (upd H1 Da (.dK [])) :=
      (ok1.add (W := true) grD (G := [Da]) (v := .ref Da) (d := oM (κ := κ) E []) (List.nodup_cons.mpr ⟨List.not_mem_nil, List.nodup_nil⟩) (fun a ha => by rw [List.mem_singleton.mp ha]; exact nD) ⟨Da, [], rfl, rfl, upd_same, Nat.zero_le _, .nil⟩).ok.hk.perm (List.perm_append_singleton _ _).symm
    have new : ∀ a o, H1 a = some o → a ≠ Da := fun a o e z => by rw [z, nD] at e; cases e
    refine ⟨fun i m H' => i + m = (xs b).length ∧ St W H1 H' ∧ ∃ acc, acc.length ≤ i ∧ Hk F (Δ1 b ++ [⟨.ref Da, oM E acc, none⟩]) H' ∧ dcF ((xs b).drop i) acc (f b) = some r, ⟨(xs b).length, Nat.zero_add _, grD.st, [], Nat.le_refl _, hk0, by rw [List.drop_zero]; exact er⟩, fun i m H2 ⟨em, st2, acc, la, hk2, ec⟩ => ?_⟩
    by_cases hi : i < (xs b).length
    · obtain ⟨x, hx, ed⟩ := drop_cons hi
      rw [ed] at ec
      obtain ⟨o, eo, ec⟩ := bind_some (show (f b x).bind _ = some r from ec)
      refine .inr ⟨((wk H2 st2.fz) i).1 hi, fun H' => (i + 1) + (m - 1) = (xs b).length ∧ St W H1 H' ∧ ∃ acc, acc.length ≤ i + 1 ∧ Hk F (Δ1 b ++ [⟨.ref Da, oM E acc, none⟩]) H' ∧ dcF ((xs b).drop (i + 1)) acc (f b) = some r, fun H' h => ⟨m - 1, by omega, h⟩, fun v H3 hy => ?_⟩
      obtain ⟨gr3, pv⟩ := ((wk H2 st2.fz) i).2.2 x v H3 hx hy
      have st3 : St W H1 H3 := st2.trans gr3.st
      refine ht F Γ _ σ H3 x v _ (ok1.wipe st3.fz (hk2.gr gr3) _) pv fun σ4 ew ok4 => ⟨ew, ⟨⟨.ref Da, oM E acc, none⟩, b, x, ok4, o, eo, fun b2 H4 kb2 st4 ok4' => ?_⟩⟩
      cases hcb : c b x b2 with
      | false =>
        dsimp only at kb2
        rw [hcb, if_neg Bool.false_ne_true] at kb2
        cases kb2
        rw [if_neg Bool.false_ne_true]
        exact ⟨by omega, st3.trans st4, acc, by omega, ok4'.hk, ec⟩
      | true =>
      dsimp only at kb2
      rw [hcb, if_pos rfl] at kb2
      rw [if_pos rfl]
      refine ⟨⟨.ref Da, oM E acc, none⟩, b, x, b2, ok4', o, kb2, fun b3 kv H5 kb3 st5 ok5 hkv => ⟨⟨.ref Da, oM E acc, none⟩, b, x, b2, b3, ok5, o, kb3, fun b4 w H6 kb4 st6 ok6 hw => ?_⟩⟩
      cases kb4
      have hlast : (Δ1 b ++ [⟨.ref Da, oM E acc, none⟩])[(Δ1 b).length]? = some ⟨.ref Da, oM E acc, none⟩ := by rw [List.getElem?_append_right (Nat.le_refl _), Nat.sub_self]; rfl
      obtain ⟨G2, ⟨p, kvs, eG, ev, hp, zz, pr⟩, _, turn⟩ := ok6.cell hlast
      cases ev
      have eG : G2 = [Da] := eG
      have fzm : Fzs H6 (upd H6 Da (.dK (putK kvs (Ky.ky (ky b x b2 b3)) w))) := Fzs.mut hp fun z => z
      have hlt : acc.length < sizeLine := by omega
      have st : St W H1 H6 := ((st3.trans st4).trans st5).trans st6
      obtain ⟨ok3, f3⟩ := turn (upd H6 Da (.dK (putK kvs (Ky.ky (ky b x b2 b3)) w))) (oM E (dput acc (ky b x b2 b3) (y b x b2 b3 b4))) (fun a o na e => by
        rw [upd_ne fun q => na (by show a ∈ G2; rw [eG, q]; exact List.mem_singleton.mpr rfl)]
        exact e) ⟨Da, _, eG, rfl, upd_same, Nat.le_trans (dput_len _ _ _) hlt, prM_put ((E _).mono fzm hw) (prM_mono fzm pr)⟩
      refine ⟨kvs, Ky.ky (ky b x b2 b3), Ky.is hkv, hp, by rw [← paired_len pr]; exact hlt, by omega, ⟨st.fz.trans fzm, fun w a o e => ?_, fun a o e => ?_⟩, dput acc (ky b x b2 b3) (y b x b2 b3 b4), Nat.le_trans (dput_len _ _ _) (by omega), ?_, ec⟩
      · rw [upd_ne (new a o e)]
        exact st.kp w a o e
      · obtain ⟨u, hu⟩ := st.dom a o e
        exact upd_dom _ _ a u hu
      · have hk7 := ok3.hk
        rw [List.set_append_right _ _ (Nat.le_refl _), Nat.sub_self] at hk7
        exact hk7
    · refine .inl ⟨((wk H2 st2.fz) i).2.1 (by omega), ?_⟩
      rw [List.drop_eq_nil_of_le (by omega)] at ec
      have ec : some acc = some r := ec
      cases ec
      have hkf := hk2.perm (List.perm_append_singleton _ _)
      exact q (b, r) _ H2 kr (f1.trans st2) (Hk.oneW hkf (ok1.nm.mono st2.fz) fun w => by
        cases h : H Da with
        | none => rfl
        | some o =>
          have := f1.kp w Da o h
          rw [nD] at this; cases this)⟩
theorem x_dcFW {kx vx tg iter : Expr} {ifs : List Expr} {scope : Scope} {pos : Pos} (nd : X.N.Nodup) (hi : PI X tg iter (tI W F Γ Δ T (fun b => (dcF (xs b) [] (f b)).bind fun r => k (b, r)) Ex xs Δ1)) (ok : BlkOk X.N X.env.scope scope own) (hg : Blk X scope fun Y => PG Y tg g) (ht : TgtW g Ex bd (own.map (·.2)))
    (hc : ∀ d, Blk X scope fun Y => ∀ b x, PTs Y ifs (tTs W F (bd (wipeG Γ (own.map (·.2))) x) (Δ1 b ++ [d]) (f b x) (fun b2 => if c b x b2 = true then T2 b x b2 else some none) (c b x) fun _ => Δ1 b ++ [d]))
    (hk : ∀ d, Blk X scope fun Y => ∀ b x b2, PE Y kx (tE W F (bd (wipeG Γ (own.map (·.2))) x) (Δ1 b ++ [d]) (T2 b x b2) (T3 b x b2) (fun b3 => Ky.kp (ky b x b2 b3)) fun _ => Δ1 b ++ [d]))
    (he : ∀ d, Blk X scope fun Y => ∀ b x b2 b3, PE Y vx (tE W F (bd (wipeG Γ (own.map (·.2))) x) (Δ1 b ++ [d]) (T3 b x b2 b3) (fun b4 => some (some (ky b x b2 b3, y b x b2 b3 b4))) (fun b4 => E (y b x b2 b3 b4)) fun _ => Δ1 b ++ [d]))
    (hcm : X.calm = true := by rfl) (hs : ∀ x, foldedSetIterable iter X.env x = pure x := by intro _; rfl) :
    PE X (.DictComp kx vx [⟨tg, iter, ifs, 0⟩] scope pos) (tO W F Γ Δ T k (fun b => oM E b.2) fun b => Δ1 b.1) :=
  (pe_dc hcm nd hi ok hg (tt := dwC W F Γ own bd Δ1 f c T2) (fun s H Cc cl fp => ⟨fun pins s' σ H Q I ⟨d, b, x, h⟩ => (hc d s _ Cc cl fp b x).run pins s' σ H Q I h⟩) (tk := dwK W F Γ own bd Δ1 T2 T3 ky) (fun s H Cc cl fp => ⟨fun pins s' σ H Q I ⟨d, b, x, b2, h⟩ => (hk d s _ Cc cl fp b x b2).run pins s' σ H Q I h⟩) (tv := dwV W F Γ own bd Δ1 T3 ky E y) (fun s H Cc cl fp => ⟨fun pins s' σ H Q I ⟨d, b, x, b2, b3, h⟩ => (he d s _ Cc cl fp b x b2 b3).run pins s' σ H Q I h⟩) hs).wk (dcw_imp ht)
end
end L3
end
section
set_option maxHeartbeats 4000000
namespace L3
open PySem PySem.Spec PyProof.Rows L2
section
variable {κ α : Type} [DecidableEq κ] [Ky κ]
def pEx (E : α → Pd) (kvs : List (Key × V)) (xs : List (κ × α)) : Pd where
  pr H v := ∃ a o, v = .ref a ∧ H a = some (.frz o (.dK kvs)) ∧ xs.length ≤ sizeLine ∧ Paired (PrM E H) xs kvs
  mono := fun f ⟨a, o, ev, h, z, p⟩ => ⟨a, o, ev, f _ _ trivial h, z, prM_mono f p⟩
def pAt (kvs : List (Key × V)) (p : κ × α) : Pd := ⟨fun _ w => valV kvs (Ky.ky p.1) = some w, fun _ h => h⟩
theorem flat_disj {gs : List (List Addr)} : gs.flatten.Nodup → ∀ {m n : Nat} {g h : List Addr}, gs[m]? = some g → gs[n]? = some h → m ≠ n → ∀ a ∈ g, a ∉ h := by
  induction gs with
  | nil => intro _ m n g h e; simp at e
  | cons g0 gs ih =>
    intro nd m n g h e1 e2 hne a ha hb
    rw [List.flatten_cons] at nd
    obtain ⟨n1, n2, n3⟩ := List.nodup_append.mp nd
    cases m with
    | zero =>
      cases n with
      | zero => exact hne rfl
      | succ n =>
        have e1 : g0 = g := by simpa using e1
        have e2 : gs[n]? = some h := by simpa using e2
        exact n3 a (by rw [e1]; exact ha) a (List.mem_flatten.mpr ⟨h, List.mem_of_getElem? e2, hb⟩) rfl
    | succ m =>
      have e1 : gs[m]? = some g := by simpa using e1
      cases n with
      | zero =>
        have e2 : g0 = h := by simpa using e2
        exact n3 a (by rw [e2]; exact hb) a (List.mem_flatten.mpr ⟨g, List.mem_of_getElem? e1, ha⟩) rfl
      | succ n =>
        have e2 : gs[n]? = some h := by simpa using e2
        exact ih n2 e1 e2 (fun z => hne (by rw [z])) a ha hb
theorem own_sel {D : α → Od} {H : Hp} {xs : List (κ × α)} {kvs : List (Key × V)} {gs : List (List Addr)} (ndk : (xs.map Prod.fst).Nodup) (ks : kvs.map (·.1) = xs.map (fun x => Ky.ky x.1)) (o3 : Own3 (fun x : κ × α => D x.2) H xs (kvs.map (·.2)) gs) (nf : gs.flatten.Nodup) :
    ∀ {ys : List (κ × (κ × α))} {us : List (Key × V)}, (∀ q ∈ ys, q.2.1 = q.1 ∧ dget xs q.1 = some q.2.2) → (ys.map Prod.fst).Nodup → Paired (PrM (pAt kvs) H) ys us →
      ∃ g2, Own3 (fun x : κ × α => D x.2) H (ys.map fun q => (q.1, q.2.2)) (us.map (·.2)) g2 ∧ g2.flatten.Nodup ∧ ∀ a ∈ g2.flatten, ∃ (m : Nat) (g : List Addr) (q : κ × (κ × α)), q ∈ ys ∧ gs[m]? = some g ∧ xs[m]? = some (q.1, q.2.2) ∧ a ∈ g
  | [], [], _, _, .nil => ⟨[], .nil, List.nodup_nil, fun _ h => nomatch h⟩
  | q :: ys, u :: us, hy, nd, .cons r t => by
    obtain ⟨nd1, nd2⟩ := List.nodup_cons.mp nd
    obtain ⟨g2, o4, n4, s4⟩ := own_sel ndk ks o3 nf (fun p hp => hy p (List.mem_cons_of_mem _ hp)) nd2 t
    obtain ⟨e1, e2⟩ := hy q List.mem_cons_self
    obtain ⟨m, hm⟩ := dget_at e2
    obtain ⟨w', g, hvw, hg, pw⟩ := o3.at hm
    have pw : (D q.2.2).pr g H w' := pw
    have ndkv : (kvs.map (·.1)).Nodup := by
      rw [ks]
      have e : xs.map (fun x => Ky.ky x.1) = (xs.map Prod.fst).map Ky.ky := by rw [List.map_map]; rfl
      rw [e]
      exact nodup_mapI (fun a b e => Ky.inj e) ndk
    have hkv : kvs[m]? = some (Ky.ky q.1, w') := by
      have h1 : (kvs.map (·.1))[m]? = some (Ky.ky q.1) := by rw [ks, List.getElem?_map, hm]; rfl
      rw [List.getElem?_map] at h1 hvw
      cases hk : kvs[m]? with
      | none => rw [hk] at h1; cases h1
      | some z =>
        rw [hk] at h1 hvw
        have h1 : z.1 = Ky.ky q.1 := Option.some.inj h1
        have h2 : z.2 = w' := Option.some.inj hvw
        rw [← h1, ← h2]
    have r2 : valV kvs (Ky.ky q.2.1) = some u.2 := r.2
    have ew : w' = u.2 := by
      have h3 := valV_at ndkv hkv
      rw [e1, h3] at r2
      exact Option.some.inj r2
    refine ⟨g :: g2, .cons (by show (D q.2.2).pr g H u.2; rw [← ew]; exact pw) o4, ?_, fun a ha => ?_⟩
    · rw [List.flatten_cons]
      refine List.nodup_append.mpr ⟨?_, n4, fun a ha b hb e => ?_⟩
      · obtain ⟨A, B, e, _⟩ := at_split hg
        rw [e, List.flatten_append, List.flatten_cons] at nf
        exact (List.nodup_append.mp (List.nodup_append.mp nf).2.1).1
      · subst e
        obtain ⟨m', g', q', hq', hg', hx', ha'⟩ := s4 a hb
        by_cases z : m = m'
        · subst z
          rw [hm] at hx'
          have : (q.1, q.2.2) = (q'.1, q'.2.2) := Option.some.inj hx'
          have : q.1 = q'.1 := (Prod.mk.inj this).1
          exact nd1 (by rw [this]; exact List.mem_map_of_mem hq')
        · exact flat_disj nf hg hg' z a ha ha'
    · rw [List.flatten_cons] at ha
      rcases List.mem_append.mp ha with ha | ha
      · exact ⟨m, g, q, List.mem_cons_self, hg, hm, ha⟩
      · obtain ⟨m', g', q', hq', rest⟩ := s4 a ha
        exact ⟨m', g', q', List.mem_cons_of_mem _ hq', rest⟩
variable {X : Cx} {W : Bool} {F : Fm} {Γ : Gm} {Δ : Δs} {γ : Type}
theorem Hk.takeM {D : α → Od} {w : V} {p : Addr} {kvs : List (Key × V)} {xs : List (κ × α)} {ys : List (κ × (κ × α))} {H : Hp} (hys : ∀ q ∈ ys, q.2.1 = q.1 ∧ dget xs q.1 = some q.2.2) (hnd : (ys.map Prod.fst).Nodup) (hp : H p = some (.dK kvs))
    (k : Hk F (⟨w, oM (pAt kvs) ys, none⟩ :: ⟨.ref p, oMO D xs, none⟩ :: Δ) H) : Hk F (⟨w, oMO D (ys.map fun q => (q.1, q.2.2)), none⟩ :: Δ) H := by
  obtain ⟨Δ0, e, k⟩ := k
  match Δ0, e, k with
  | [], e, _ => cases e
  | [_], e, _ =>
    have := congrArg List.length e
    simp at this
  | c1 :: c2 :: R, e, k =>
    obtain ⟨G1, v1, d1, p1⟩ := c1
    obtain ⟨G2, v2, d2, p2⟩ := c2
    have e' : (⟨v1, d1, p1⟩ : Cell) = ⟨w, oM (pAt kvs) ys, none⟩ ∧ (⟨v2, d2, p2⟩ : Cell) = ⟨.ref p, oMO D xs, none⟩ ∧ R.map Cel.fg = Δ := by simpa [Cel.fg] using e
    obtain ⟨e1, e2, e3⟩ := e'
    cases e1
    cases e2
    obtain ⟨r, us, eG1, ev, hr, z, pr⟩ := k.del _ List.mem_cons_self
    have eG1 : G1 = [r] := eG1
    obtain ⟨p', kvs', gs, eG2, ev2, hp', z2, ndk, ks, o3⟩ := k.del _ (List.mem_cons_of_mem _ List.mem_cons_self)
    have eG2 : G2 = p' :: gs.flatten := eG2
    have ev2 : V.ref p = .ref p' := ev2
    cases ev2
    rw [hp] at hp'
    cases hp'
    have nd := k.nod
    rw [cellsOf_cons, cellsOf_cons] at nd
    have nd : (G1 ++ (G2 ++ cellsOf R)).Nodup := nd
    rw [eG1, eG2] at nd
    obtain ⟨n1, n2, n3⟩ := List.nodup_append.mp nd
    obtain ⟨n4, n5, n6⟩ := List.nodup_append.mp n2
    obtain ⟨n7, n8⟩ := List.nodup_cons.mp n4
    obtain ⟨g2, o4, nf2, sb⟩ := own_sel ndk ks o3 n8 hys hnd pr
    have sub : ∀ a ∈ g2.flatten, a ∈ gs.flatten := fun a ha => by
      obtain ⟨m, g, q, _, hg, _, hag⟩ := sb a ha
      exact List.mem_flatten.mpr ⟨g, List.mem_of_getElem? hg, hag⟩
    have ku := prM_keys pr
    refine ⟨⟨r :: g2.flatten, w, oMO D (ys.map fun q => (q.1, q.2.2)), none⟩ :: R, by rw [List.map_cons, e3]; rfl, ⟨k.base, fun c hc => ?_, ?_, fun c hc a ha => ?_, k.mem⟩⟩
    · rcases List.mem_cons.mp hc with e | hc
      · subst e
        refine ⟨r, us, g2, rfl, ev, hr, by rw [List.length_map]; exact z, by rw [List.map_map]; exact hnd, ?_, o4⟩
        rw [ku, List.map_map]; rfl
      · exact k.del c (List.mem_cons_of_mem _ (List.mem_cons_of_mem _ hc))
    · rw [cellsOf_cons]
      show (r :: (g2.flatten ++ cellsOf R)).Nodup
      refine List.nodup_cons.mpr ⟨fun h => ?_, List.nodup_append.mpr ⟨nf2, n5, fun a ha b hb e => n6 a (List.mem_cons_of_mem _ (sub a ha)) b hb e⟩⟩
      rcases List.mem_append.mp h with h | h
      · exact n3 r (List.mem_singleton.mpr rfl) r (List.mem_append_left _ (List.mem_cons_of_mem _ (sub r h))) rfl
      · exact n3 r (List.mem_singleton.mpr rfl) r (List.mem_append_right _ h) rfl
    · rcases List.mem_cons.mp hc with e | hc
      · subst e
        rcases List.mem_cons.mp ha with e | ha
        · exact k.own _ List.mem_cons_self a (by show a ∈ G1; rw [eG1, e]; exact List.mem_singleton.mpr rfl)
        · exact k.own _ (List.mem_cons_of_mem _ List.mem_cons_self) a (by show a ∈ G2; rw [eG2]; exact List.mem_cons_of_mem _ (sub a ha))
      · exact k.own c (List.mem_cons_of_mem _ (List.mem_cons_of_mem _ hc)) a ha
theorem Ok.lockQ {σ : SS} {H : Hp} {i j : Nat} {c : Cell} (ok : Ok F Γ Δ σ H) (hj : Δ[j]? = some c) (hi : Γ[i]? = some (some (pV c.v))) : ∃ G, G.Nodup ∧ c.d.pr G H c.v ∧ ∀ H1 (p' : Pd), (∀ a, a ∉ G → H1 a = H a) → (∀ a ∈ G, ∀ u, H a = some u → ∃ o, H1 a = some (.frz o u)) → p'.pr H1 c.v → Ok F (Γ.set i (some p')) (Δ.eraseIdx j) σ H1 := by
  obtain ⟨⟨Δ0, e, k⟩, n⟩ := ok
  subst e
  obtain ⟨A, x, B, e0, el, ex⟩ := map_at hj
  subst e0
  subst ex
  have k1 := k.perm mid_perm
  have hc := k1.del x List.mem_cons_self
  refine ⟨x.G, k1.ndup.1, hc, fun H1 p' h1 h2 hp' => ?_⟩
  have fz1 : Fzs H H1 := lk_fzs (x.d.cells hc) h1
  obtain ⟨r, fz, _⟩ := k1.rest (H' := H1) (fun a o na e => by rw [h1 a na]; exact e) (fun a ha => by
    obtain ⟨u, hu, _⟩ := x.d.cells hc a ha
    obtain ⟨o, ho⟩ := h2 a ha u hu
    exact ⟨_, ho⟩)
  refine ⟨⟨A ++ B, by rw [← el]; exact map_erase, r⟩, by rw [List.length_set]; exact n.len, fun m q e => ?_⟩
  by_cases h : m = i
  · subst h
    rw [List.getElem?_set_self (List.getElem?_eq_some_iff.mp hi).1] at e
    cases e
    obtain ⟨w, hs, hv⟩ := n.gam m _ hi
    have hv : w = _ := hv
    subst hv
    exact ⟨_, hs, hp'⟩
  · rw [List.getElem?_set_ne (fun z => h z.symm)] at e
    obtain ⟨w, hs, hv⟩ := n.gam m q e
    exact ⟨w, hs, q.mono fz1 hv⟩
theorem o_take {e : Expr} {β : Type} {T : Option γ} {k : β → Option γ} {D : α → Od} {xs : List (κ × α)} {ys : β → List (κ × (κ × α))} {v : V} (i j : Nat)
    (he : ∀ kvs, PE X e (tO false F (Γ.set i (some (pEx (fun x => (D x).pd) kvs xs))) (Δ.eraseIdx j) T k (fun b => oM (pAt kvs) (ys b)) fun _ => Δ.eraseIdx j))
    (hys : ∀ b g, k b = some g → (∀ q ∈ ys b, q.2.1 = q.1 ∧ dget xs q.1 = some q.2.2) ∧ ((ys b).map Prod.fst).Nodup)
    (hj : Δ[j]? = some ⟨v, oMO D xs, none⟩ := by rfl) (hi : Γ[i]? = some (some (pV v)) := by rfl) : PE X e (tO true F Γ Δ T k (fun b => oMO D ((ys b).map fun q => (q.1, q.2.2))) fun _ => Δ.eraseIdx j) :=
  (pe_ex fun G => pe_ex fun kvs => pe_lkE (he kvs) G).wk fun σ H Q ⟨ok, g, e, q⟩ => by
    obtain ⟨G, nd, hc, lk⟩ := ok.lockQ hj hi
    have hc' := hc
    obtain ⟨p, kvs, gs, eG, ev, hp, z, ndk, ks, o3⟩ := hc'
    have eG : G = p :: gs.flatten := eG
    have ev : v = .ref p := ev
    subst ev
    have cl := (oMO D xs).cells hc
    refine ⟨G, kvs, tLkE_of (fun H Q Q' h ⟨a, g, b, c⟩ => ⟨a, g, b, fun b v H' k s o => h v H' (c b v H' k s o)⟩) nd cl fun H1 h1 h2 => ⟨lk H1 _ h1 h2 ?_, g, e, fun b w H' kb st okn => ⟨lk_kept cl h2 st.gr, fun H2 r1 r2 => ?_⟩⟩⟩
    · obtain ⟨o, ho⟩ := h2 p (by rw [eG]; exact List.mem_cons_self) _ hp
      exact ⟨p, o, rfl, ho, z, prM_of ks (o3.lockd (D := fun x : κ × α => D x.2) h1 h2 cl fun a ha => by rw [eG]; exact List.mem_cons_of_mem _ ha)⟩
    · have g2 := lk_back h1 st.gr r1 r2
      obtain ⟨Δ0, Gn, _, kn, nw, _⟩ := okn
      have out : ∀ a ∈ Gn, a ∉ G := fun a ha hg => by
        obtain ⟨u, hu, _⟩ := cl a hg
        obtain ⟨o, ho⟩ := h2 a hg u hu
        rw [nw rfl a ha] at ho; cases ho
      obtain ⟨r, us, eGn, ew, hr, zr, pr⟩ := kn.del _ List.mem_cons_self
      have eGn : Gn = [r] := eGn
      have hr2 : H2 r = some (.dK us) := by rw [r1 r (out r (by rw [eGn]; exact List.mem_singleton.mpr rfl))]; exact hr
      have on : OkN true F Γ H w (oM (pAt kvs) (ys b)) Δ σ H2 := ok.add g2 kn.ndup.1 (fun a ha => by
        rw [← h1 a (out a ha)]
        exact nw rfl a ha) ⟨r, us, eGn, ew, hr2, zr, paired_mono (fun x _ h => ⟨h.1, h.2⟩) pr⟩
      have h3 := on.ok.hk.perm ((erase_perm hj).symm.cons _)
      have h4 := Hk.takeM (hys b g kb).1 (hys b g kb).2 (by rw [r2 p (by rw [eG]; exact List.mem_cons_self)]; exact hp) h3
      exact q b w H2 kb g2.st (Ok.okN ⟨h4, on.ok.nm⟩)
end
end L3
end
section
set_option maxHeartbeats 4000000
namespace L3
open PySem PySem.Spec PyProof.Rows L2
section
variable {κ α : Type} [DecidableEq κ] [Ky κ] {X : Cx} {W : Bool} {F : Fm} {Γ : Gm} {Δ : Δs} {γ : Type}
def tkOk [DecidableEq α] (xs : List (κ × α)) (r : List (κ × (κ × α))) : Bool := decide (r.map Prod.fst).Nodup && r.all fun q => decide (q.2.1 = q.1) && decide (dget xs q.1 = some q.2.2)
theorem tkOk_iff [DecidableEq α] {xs : List (κ × α)} {r : List (κ × (κ × α))} (h : tkOk xs r = true) : (∀ q ∈ r, q.2.1 = q.1 ∧ dget xs q.1 = some q.2.2) ∧ (r.map Prod.fst).Nodup := by
  obtain ⟨h1, h2⟩ := Bool.and_eq_true_iff.mp h
  refine ⟨fun q hq => ?_, of_decide_eq_true h1⟩
  obtain ⟨h3, h4⟩ := Bool.and_eq_true_iff.mp (List.all_eq_true.mp h2 q hq)
  exact ⟨of_decide_eq_true h3, of_decide_eq_true h4⟩
theorem o_takeG [DecidableEq α] {e : Expr} {β : Type} {T : Option γ} {k : β × List (κ × (κ × α)) → Option γ} {D : α → Od} {xs : List (κ × α)} {v : V} (i j : Nat)
    (he : ∀ kvs, PE X e (tO false F (Γ.set i (some (pEx (fun x => (D x).pd) kvs xs))) (Δ.eraseIdx j) T (fun b => grd (tkOk xs b.2 = true) (k b)) (fun b => oM (pAt kvs) b.2) fun _ => Δ.eraseIdx j))
    (hj : Δ[j]? = some ⟨v, oMO D xs, none⟩ := by rfl) (hi : Γ[i]? = some (some (pV v)) := by rfl) : PE X e (tO true F Γ Δ T k (fun b => oMO D (b.2.map fun q => (q.1, q.2.2))) fun _ => Δ.eraseIdx j) :=
  (o_take i j he (fun b g h => tkOk_iff (grd_some h).1) hj hi).wk fun σ H Q ⟨ok, g, e, q⟩ => ⟨ok, g, e, fun b v H' kb f ok' => q b v H' (grd_some kb).2 f ok'⟩
theorem x_exM {a : Expr} {β : Type} {T : Option γ} {k : β → Option γ} {Δ1 : β → Δs} {E : α → Pd} {kvs : List (Key × V)} {xs : List (κ × α)} (ha : PE X a (tE W F Γ Δ T k (fun _ => pEx E kvs xs) Δ1)) : PE X a (tE W F Γ Δ T k (fun _ => pM E xs) Δ1) :=
  ha.wk fun σ H Q ⟨ok, g, e, q⟩ => ⟨ok, g, e, fun b v H' kb f ok' ⟨a, o, ev, h, z, p⟩ => q b v H' kb f ok' ⟨a, o, kvs, ev, h, z, p⟩⟩
theorem x_ixAt {a i : Expr} {pos : Pos} {β1 β2 : Type} {T : Option γ} {k1 : β1 → Option γ} {E : α → Pd} {kvs : List (Key × V)} {xs : List (κ × α)} {k : (β1 × β2) × α → Option γ} {Δ1 : β1 → Δs} {Δ2 : β1 → β2 → Δs} {n : β1 → β2 → κ} (hu : X.A.units + 64 < cLine) (ha : PE X a (tE W F Γ Δ T k1 (fun _ => pEx E kvs xs) Δ1))
    (hi : ∀ b1, PE X i (tE W F Γ (Δ1 b1) (k1 b1) (fun b2 => (dget xs (n b1 b2)).bind fun y => k ((b1, b2), y)) (fun b2 => Ky.kp (n b1 b2)) (Δ2 b1))) (hs : NoSl i := by exact fun _ _ => rfl) :
    PE X (.Subscript a i pos) (tE W F Γ Δ T k (fun b => pAt kvs (n b.1.1 b.1.2, b.2)) fun b => Δ2 b.1.1 b.1.2) :=
  (pe_dget (by omega) ha (pe_ex hi) hs).wk fun σ H Q ⟨ok, g, e, q⟩ => ⟨ok, g, e, fun b1 u H1 kb1 g1 ok1 hu => ⟨b1, ok1, g, kb1, fun b2 w H2 kb2 s2 ok2 hw => by
    obtain ⟨x, ex, kx⟩ := bind_some kb2
    obtain ⟨a, o, ev, h, z, pr⟩ := (pEx E kvs xs).mono s2.fz hu
    rcases prM_get (n b1 b2) pr with ⟨h1, _⟩ | ⟨y, w', h1, h2, h3⟩
    · rw [ex] at h1; cases h1
    · exact ⟨a, w', ev, .inl ⟨kvs, Ky.ky (n b1 b2), .inr ⟨o, h⟩, Ky.is hw, h2.symm⟩, q ((b1, b2), x) w' H2 kx (g1.trans s2) ok2 h2⟩⟩⟩
end
section
variable {X : Cx} {F : Fm} {Γ : Gm} {Δ : Δs} {γ : Type}
end
end L3
end
section
set_option maxHeartbeats 4000000
namespace L3
open PySem PySem.Spec PyProof.Rows L2
theorem own_unmap {α : Type} {D : α → Od} {H : Hp} : ∀ {xs : List α} {vs : List V} {gs : List (List Addr)}, Own3 (fun d : Od => d) H (xs.map D) vs gs → Own3 D H xs vs gs
  | [], _, _, .nil => .nil
  | _ :: _, _, _, .cons r t => .cons r (own_unmap t)
section
variable {X : Cx} {W : Bool} {F : Fm} {Γ : Gm} {Δ : Δs} {γ : Type}
theorem Hk.joinL {α : Type} {D : α → Od} {v vL : V} {x : α} {xs : List α} {H : Hp} (k : Hk F (⟨vL, oLH (oFp (pV v) :: xs.map D), none⟩ :: ⟨v, D x, none⟩ :: Δ) H) : Hk F (⟨vL, oLO D (x :: xs), none⟩ :: Δ) H := by
  obtain ⟨Δ0, e, k⟩ := k
  match Δ0, e, k with
  | [], e, _ => cases e
  | [_], e, _ =>
    have := congrArg List.length e
    simp at this
  | c1 :: c2 :: R, e, k =>
    obtain ⟨G1, v1, d1, p1⟩ := c1
    obtain ⟨G2, v2, d2, p2⟩ := c2
    have e' : (⟨v1, d1, p1⟩ : Cell) = ⟨vL, oLH (oFp (pV v) :: xs.map D), none⟩ ∧ (⟨v2, d2, p2⟩ : Cell) = ⟨v, D x, none⟩ ∧ R.map Cel.fg = Δ := by simpa [Cel.fg] using e
    obtain ⟨e1, e2, e3⟩ := e'
    cases e1
    cases e2
    obtain ⟨p, vs, gs, eG1, ev, hp, z, o3⟩ := k.del _ List.mem_cons_self
    have eG1 : G1 = p :: gs.flatten := eG1
    have h2 : (D x).pr G2 H v := k.del _ (List.mem_cons_of_mem _ List.mem_cons_self)
    cases o3 with
    | @cons _ _ w vs' g gs' r t =>
    have r1 : g = [] := r.1
    have r2 : w = v := r.2
    subst r1 r2
    have eG1 : G1 = p :: gs'.flatten := eG1
    have nd := k.nod
    rw [cellsOf_cons, cellsOf_cons] at nd
    have nd : (G1 ++ (G2 ++ cellsOf R)).Nodup := nd
    rw [eG1] at nd
    have pm : ((p :: gs'.flatten) ++ (G2 ++ cellsOf R)).Perm ((p :: (G2 ++ gs'.flatten)) ++ cellsOf R) := by
      refine List.Perm.cons p ?_
      show (gs'.flatten ++ (G2 ++ cellsOf R)).Perm ((G2 ++ gs'.flatten) ++ cellsOf R)
      rw [← List.append_assoc]
      exact List.perm_append_comm.append_right _
    refine ⟨⟨p :: (G2 ++ gs'.flatten), vL, oLO D (x :: xs), none⟩ :: R, by rw [List.map_cons, e3]; rfl, ⟨k.base, fun c hc => ?_, ?_, fun c hc a ha => ?_, k.mem⟩⟩
    · rcases List.mem_cons.mp hc with e | hc
      · subst e
        exact ⟨p, w :: vs', G2 :: gs', rfl, ev, hp, by rw [List.length_cons, List.length_map] at z; exact z, .cons h2 (own_unmap t)⟩
      · exact k.del c (List.mem_cons_of_mem _ (List.mem_cons_of_mem _ hc))
    · rw [cellsOf_cons]
      exact pm.nodup_iff.mp nd
    · rcases List.mem_cons.mp hc with e | hc
      · subst e
        rcases List.mem_cons.mp ha with e | ha
        · exact k.own _ List.mem_cons_self a (by show a ∈ G1; rw [eG1, e]; exact List.mem_cons_self)
        · rcases List.mem_append.mp ha with ha | ha
          · exact k.own _ (List.mem_cons_of_mem _ List.mem_cons_self) a ha
          · exact k.own _ List.mem_cons_self a (by show a ∈ G1; rw [eG1]; exact List.mem_cons_of_mem _ ha)
      · exact k.own c (List.mem_cons_of_mem _ (List.mem_cons_of_mem _ hc)) a ha
variable {N : Fn γ}
theorem s_joinL {st : List Stmt} {T : Option γ} {α : Type} {D : α → Od} {v vL : V} {x : α} {xs : List α} (hr : PSs X st (tS F Γ (⟨vL, oLO D (x :: xs), none⟩ :: Δ) N T)) : PSs X st (tS F Γ (⟨vL, oLH (oFp (pV v) :: xs.map D), none⟩ :: ⟨v, D x, none⟩ :: Δ) N T) :=
  hr.wk fun A σ H ⟨ok, g, e, f⟩ => ⟨⟨ok.hk.joinL, ok.nm⟩, g, e, f⟩
theorem Ok.lendF {σ : SS} {H : Hp} {α : Type} {j : Nat} {d : Od} {v : V} {prm : Option Nat} {D : α → Od} {x : α} {back : α → Od} {u : V} (ok : Ok F Γ Δ σ H) (hj : Δ[j]? = some ⟨v, d, prm⟩) (f : Foc d v D x back u H) : ∃ G2, (D x).pr G2 H u ∧ G2.Nodup ∧
    ∀ H' y, Hk ⟨H, [G2]⟩ [⟨u, D y, some 0⟩] H' → Ok F Γ (Δ.set j ⟨v, back y, prm⟩) σ H' ∧ St true H H' := by
  obtain ⟨G2, h2, nd2, tr⟩ := ok.focT hj f
  refine ⟨G2, h2, nd2, fun H' y hk => ?_⟩
  obtain ⟨Δ1, e1, hk⟩ := hk
  obtain ⟨yG, e2⟩ := map_one e1
  subst e2
  have hm : ∀ a, a ∉ G2 → ∀ m ∈ [G2], a ∉ m := fun a na m hm => by rw [List.mem_singleton.mp hm]; exact na
  have fz : Fzs H H' := fun a o p e => hk.base a o e (hm a fun ha => by
    obtain ⟨q, eq, np⟩ := (D x).cellsN h2 a ha
    rw [e] at eq
    cases eq
    exact np p)
  have nod := hk.ndup.1
  exact tr H' y yG (fun a o na e => hk.base a o e (hm a na)) (fun a ha => hk.mem G2 (List.mem_singleton.mpr rfl) a ha) fz nod (fun a ha => by
    rcases hk.own _ List.mem_cons_self a ha with h | ⟨i, m, hi, hmm, hin⟩
    · exact .inr h
    · have hi : some 0 = some i := hi
      cases hi
      have hmm : some G2 = some m := hmm
      cases hmm
      exact .inl hin) (hk.del _ List.mem_cons_self)
end
end L3
end
section
set_option maxHeartbeats 4000000
namespace L3
open PySem PySem.Spec PyProof.Rows L2
def Sp_FFF_f {α1 α2 α3 ρ : Type} (E1 : α1 → Pd) (E2 : α2 → Pd) (E3 : α3 → Pd) (Mf : α1 → α2 → α3 → Option (ρ)) (Rp : ρ → Pd) : Sp := fun vs H Q _ => ∃ (v1 v2 v3 : V)  (a1 : α1) (a2 : α2) (a3 : α3), vs = [v1, v2, v3] ∧ (E1 a1).pr H v1 ∧ (E2 a2).pr H v2 ∧ (E3 a3).pr H v3 ∧ ∃ r, Mf a1 a2 a3 = some r ∧ RF ⟨H, []⟩ (fun _ => []) (Rp) r Q
theorem fn_FFF_f {P : Program} {w : World} {K : PySem.W.Frag} {mg : Str → Option Value} {base : Heap} {x qual : Str} {params : Arguments} {body : List Stmt} {scope : Scope} {dvs : List V} {kws : List (Str × V)} {f : Addr} {fd : FuncData} {N ps : List Str} {k : Nat} {α1 α2 α3 ρ : Type} {E1 : α1 → Pd} {E2 : α2 → Pd} {E3 : α3 → Pd} {Mf : α1 → α2 → α3 → Option (ρ)} {Rp : ρ → Pd}
    (FD : FunD K x qual params body scope dvs kws f fd) (S : FnScope N ps scope) (hl : 3 = ps.length)
    (hb : ∀ (cdv : Value) (A : Around) (outer : List Env) (s : Shared) (H : Hp) (E : XK) (hr : Room k (A.deeper (envOfC qual scope s.heap.objs.size f cdv)))  (a1 : α1) (a2 : α2) (a3 : α3), PSs (cxOf CX0 P w K mg base N qual scope f cdv A outer s H E).nox body
      (tS ⟨H, []⟩ (([E1 a1, E2 a2, E3 a3] : List Pd).map some ++ List.replicate (N.length - 3) none) [] (fF (RF ⟨H, []⟩ (fun _ => []) (Rp))) (Mf a1 a2 a3))) : FnOk P w K mg base CX0 (k + 1) f fd ps (Sp_FFF_f E1 E2 E3 Mf Rp) := by
  refine FD.ok S (fun vs H Q E h => ?_) (fun cdv A outer s H vs Q E hr h => ?_)
  · obtain ⟨v1, v2, v3, a1, a2, a3, rfl, _⟩ := h
    exact hl
  · obtain ⟨v1, v2, v3, a1, a2, a3, rfl, p1, p2, p3, r, hM, fin⟩ := h
    refine ⟨_, PSs.nox (hb cdv A outer s H E hr  a1 a2 a3), ok_start (Δ := []) rfl (.cons p1 (.cons p2 (.cons p3 (.nil)))) ?_ ?_ ?_, r, hM, fin⟩
    · exact fun _ h => nomatch h
    · exact List.nodup_nil
    · exact fun _ _ h => nomatch h
theorem x_FFF_f {X : Cx} {W : Bool} {F : Fm} {Γ : Gm} {Δ : Δs} {γ : Type} {x : Str} {p pos : Pos} {e1 e2 e3 : Expr} {f : Addr} {fd : FuncData} {ps : List Str} {kk : Nat} {α1 α2 α3 ρ β1 β2 β3 : Type} {E1 : α1 → Pd} {E2 : α2 → Pd} {E3 : α3 → Pd} {Mf : α1 → α2 → α3 → Option (ρ)} {Rp : ρ → Pd} {T : Option γ} {Δ1 : β1 → Δs} {x1 : β1 → α1} {k1 : β1 → Option γ} {Δ2 : β1 → β2 → Δs} {x2 : β1 → β2 → α2} {k2 : β1 → β2 → Option γ} {Δ3 : β1 → β2 → β3 → Δs} {x3 : β1 → β2 → β3 → α3} {k : (β1 × β2 × β3) × (ρ) → Option γ}
    (G : FnOk X.prog X.w X.K X.mg X.base CX0 kk f fd ps (Sp_FFF_f E1 E2 E3 Mf Rp)) (hr : Room kk X.A) (hm : X.mg x = some (.ref f)) (hk : PySem.W.keepIn X.K (.ref f) = true) (hb : Binds X.K fd ps []) (h1 : PE X e1 (tE W F Γ Δ T (k1) (fun b1 => E1 (x1 b1)) (Δ1))) (h2 : ∀ b1, PE X e2 (tE W F Γ (Δ1 b1) (k1 b1) (k2 b1) (fun b2 => E2 (x2 b1 b2)) (Δ2 b1))) (h3 : ∀ b1 b2, PE X e3 (tE W F Γ (Δ2 b1 b2) (k2 b1 b2) (fun b3 => (Mf (x1 b1) (x2 b1 b2) (x3 b1 b2 b3)).bind fun r => k ((b1, b2, b3), r)) (fun b3 => E3 (x3 b1 b2 b3)) (Δ3 b1 b2)))
     (hg : Gl X x := by rfl) (hdb : (x == ("__debug__" : Str)) = false := by decide) (st1 : starEach [e1, e2, e3] X.env = (false, eval e1 X.env) :: starEach [e2, e3] X.env := by rfl) (st2 : starEach [e2, e3] X.env = (false, eval e2 X.env) :: starEach [e3] X.env := by rfl) (st3 : starEach [e3] X.env = (false, eval e3 X.env) :: starEach [] X.env := by rfl) (hpl : (backTo pos (starEach [e2, e3] X.env)).any (·.1) = false := by rfl) :
    PE X (.Call (.Name x p) [e1, e2, e3] [] pos) (tE W F Γ Δ T k (fun b => Rp b.2) fun b => Δ3 b.1.1 b.1.2.1 b.1.2.2) :=
  (pe_call G hr hg hm hk hb .nil pass0 (pa_cons h1 (pa_cons (pe_ex fun b1 => h2 b1) (pa_cons (pe_ex fun b1 => pe_ex fun b2 => h3 b1 b2) pa_nil st3) st2) st1) hdb st1 hpl).wk fun σ H Q ⟨ok, g, e, q⟩ => ⟨ok, g, e, fun b1 v1 H1 kb1 f1 ok1 hv1 => ⟨b1, ok1, g, kb1, fun b2 v2 H2 kb2 f2 ok2 hv2 => ⟨b1, b2, ok2, g, kb2, fun b3 v3 H3 kb3 f3 ok3 hv3 => by
    obtain ⟨r, er, kr⟩ := bind_some kb3
    refine ⟨v1, v2, v3, x1 b1, x2 b1 b2, x3 b1 b2 b3, rfl, ((E1 _).mono (f2.fz.trans f3.fz) hv1), ((E2 _).mono f3.fz hv2), hv3, r, er, fun v H' hk hv => ?_⟩
    obtain ⟨ok', st⟩ := call_f0 (W := W) ok3 hk
    exact q ((b1, b2, b3), r) v H' kr (((f1.trans f2).trans f3).trans st) ok' hv⟩⟩⟩
def Sp_FF_f {α1 α2 ρ : Type} (E1 : α1 → Pd) (E2 : α2 → Pd) (Mf : α1 → α2 → Option (ρ)) (Rp : ρ → Pd) : Sp := fun vs H Q _ => ∃ (v1 v2 : V)  (a1 : α1) (a2 : α2), vs = [v1, v2] ∧ (E1 a1).pr H v1 ∧ (E2 a2).pr H v2 ∧ ∃ r, Mf a1 a2 = some r ∧ RF ⟨H, []⟩ (fun _ => []) (Rp) r Q
theorem fn_FF_f {P : Program} {w : World} {K : PySem.W.Frag} {mg : Str → Option Value} {base : Heap} {x qual : Str} {params : Arguments} {body : List Stmt} {scope : Scope} {dvs : List V} {kws : List (Str × V)} {f : Addr} {fd : FuncData} {N ps : List Str} {k : Nat} {α1 α2 ρ : Type} {E1 : α1 → Pd} {E2 : α2 → Pd} {Mf : α1 → α2 → Option (ρ)} {Rp : ρ → Pd}
    (FD : FunD K x qual params body scope dvs kws f fd) (S : FnScope N ps scope) (hl : 2 = ps.length)
    (hb : ∀ (cdv : Value) (A : Around) (outer : List Env) (s : Shared) (H : Hp) (E : XK) (hr : Room k (A.deeper (envOfC qual scope s.heap.objs.size f cdv)))  (a1 : α1) (a2 : α2), PSs (cxOf CX0 P w K mg base N qual scope f cdv A outer s H E).nox body
      (tS ⟨H, []⟩ (([E1 a1, E2 a2] : List Pd).map some ++ List.replicate (N.length - 2) none) [] (fF (RF ⟨H, []⟩ (fun _ => []) (Rp))) (Mf a1 a2))) : FnOk P w K mg base CX0 (k + 1) f fd ps (Sp_FF_f E1 E2 Mf Rp) := by
  refine FD.ok S (fun vs H Q E h => ?_) (fun cdv A outer s H vs Q E hr h => ?_)
  · obtain ⟨v1, v2, a1, a2, rfl, _⟩ := h
    exact hl
  · obtain ⟨v1, v2, a1, a2, rfl, p1, p2, r, hM, fin⟩ := h
    refine ⟨_, PSs.nox (hb cdv A outer s H E hr  a1 a2), ok_start (Δ := []) rfl (.cons p1 (.cons p2 (.nil))) ?_ ?_ ?_, r, hM, fin⟩
    · exact fun _ h => nomatch h
    · exact List.nodup_nil
    · exact fun _ _ h => nomatch h
theorem x_FF_f {X : Cx} {W : Bool} {F : Fm} {Γ : Gm} {Δ : Δs} {γ : Type} {x : Str} {p pos : Pos} {e1 e2 : Expr} {f : Addr} {fd : FuncData} {ps : List Str} {kk : Nat} {α1 α2 ρ β1 β2 : Type} {E1 : α1 → Pd} {E2 : α2 → Pd} {Mf : α1 → α2 → Option (ρ)} {Rp : ρ → Pd} {T : Option γ} {Δ1 : β1 → Δs} {x1 : β1 → α1} {k1 : β1 → Option γ} {Δ2 : β1 → β2 → Δs} {x2 : β1 → β2 → α2} {k : (β1 × β2) × (ρ) → Option γ}
    (G : FnOk X.prog X.w X.K X.mg X.base CX0 kk f fd ps (Sp_FF_f E1 E2 Mf Rp)) (hr : Room kk X.A) (hm : X.mg x = some (.ref f)) (hk : PySem.W.keepIn X.K (.ref f) = true) (hb : Binds X.K fd ps []) (h1 : PE X e1 (tE W F Γ Δ T (k1) (fun b1 => E1 (x1 b1)) (Δ1))) (h2 : ∀ b1, PE X e2 (tE W F Γ (Δ1 b1) (k1 b1) (fun b2 => (Mf (x1 b1) (x2 b1 b2)).bind fun r => k ((b1, b2), r)) (fun b2 => E2 (x2 b1 b2)) (Δ2 b1)))
     (hg : Gl X x := by rfl) (hdb : (x == ("__debug__" : Str)) = false := by decide) (st1 : starEach [e1, e2] X.env = (false, eval e1 X.env) :: starEach [e2] X.env := by rfl) (st2 : starEach [e2] X.env = (false, eval e2 X.env) :: starEach [] X.env := by rfl) (hpl : (backTo pos (starEach [e2] X.env)).any (·.1) = false := by rfl) :
    PE X (.Call (.Name x p) [e1, e2] [] pos) (tE W F Γ Δ T k (fun b => Rp b.2) fun b => Δ2 b.1.1 b.1.2) :=
  (pe_call G hr hg hm hk hb .nil pass0 (pa_cons h1 (pa_cons (pe_ex fun b1 => h2 b1) pa_nil st2) st1) hdb st1 hpl).wk fun σ H Q ⟨ok, g, e, q⟩ => ⟨ok, g, e, fun b1 v1 H1 kb1 f1 ok1 hv1 => ⟨b1, ok1, g, kb1, fun b2 v2 H2 kb2 f2 ok2 hv2 => by
    obtain ⟨r, er, kr⟩ := bind_some kb2
    refine ⟨v1, v2, x1 b1, x2 b1 b2, rfl, ((E1 _).mono f2.fz hv1), hv2, r, er, fun v H' hk hv => ?_⟩
    obtain ⟨ok', st⟩ := call_f0 (W := W) ok2 hk
    exact q ((b1, b2), r) v H' kr ((f1.trans f2).trans st) ok' hv⟩⟩
def Sp_FF_o {α1 α2 ρ : Type} (E1 : α1 → Pd) (E2 : α2 → Pd) (Mf : α1 → α2 → Option (ρ)) (Rp : ρ → Od) : Sp := fun vs H Q _ => ∃ (v1 v2 : V)  (a1 : α1) (a2 : α2), vs = [v1, v2] ∧ (E1 a1).pr H v1 ∧ (E2 a2).pr H v2 ∧ ∃ r, Mf a1 a2 = some r ∧ RO ⟨H, []⟩ (fun _ => []) (Rp) r Q
theorem fn_FF_o {P : Program} {w : World} {K : PySem.W.Frag} {mg : Str → Option Value} {base : Heap} {x qual : Str} {params : Arguments} {body : List Stmt} {scope : Scope} {dvs : List V} {kws : List (Str × V)} {f : Addr} {fd : FuncData} {N ps : List Str} {k : Nat} {α1 α2 ρ : Type} {E1 : α1 → Pd} {E2 : α2 → Pd} {Mf : α1 → α2 → Option (ρ)} {Rp : ρ → Od}
    (FD : FunD K x qual params body scope dvs kws f fd) (S : FnScope N ps scope) (hl : 2 = ps.length)
    (hb : ∀ (cdv : Value) (A : Around) (outer : List Env) (s : Shared) (H : Hp) (E : XK) (hr : Room k (A.deeper (envOfC qual scope s.heap.objs.size f cdv)))  (a1 : α1) (a2 : α2), PSs (cxOf CX0 P w K mg base N qual scope f cdv A outer s H E).nox body
      (tS ⟨H, []⟩ (([E1 a1, E2 a2] : List Pd).map some ++ List.replicate (N.length - 2) none) [] (fF (RO ⟨H, []⟩ (fun _ => []) (Rp))) (Mf a1 a2))) : FnOk P w K mg base CX0 (k + 1) f fd ps (Sp_FF_o E1 E2 Mf Rp) := by
  refine FD.ok S (fun vs H Q E h => ?_) (fun cdv A outer s H vs Q E hr h => ?_)
  · obtain ⟨v1, v2, a1, a2, rfl, _⟩ := h
    exact hl
  · obtain ⟨v1, v2, a1, a2, rfl, p1, p2, r, hM, fin⟩ := h
    refine ⟨_, PSs.nox (hb cdv A outer s H E hr  a1 a2), ok_start (Δ := []) rfl (.cons p1 (.cons p2 (.nil))) ?_ ?_ ?_, r, hM, fin⟩
    · exact fun _ h => nomatch h
    · exact List.nodup_nil
    · exact fun _ _ h => nomatch h
theorem x_FF_o {X : Cx} {W : Bool} {F : Fm} {Γ : Gm} {Δ : Δs} {γ : Type} {x : Str} {p pos : Pos} {e1 e2 : Expr} {f : Addr} {fd : FuncData} {ps : List Str} {kk : Nat} {α1 α2 ρ β1 β2 : Type} {E1 : α1 → Pd} {E2 : α2 → Pd} {Mf : α1 → α2 → Option (ρ)} {Rp : ρ → Od} {T : Option γ} {Δ1 : β1 → Δs} {x1 : β1 → α1} {k1 : β1 → Option γ} {Δ2 : β1 → β2 → Δs} {x2 : β1 → β2 → α2} {k : (β1 × β2) × (ρ) → Option γ}
    (G : FnOk X.prog X.w X.K X.mg X.base CX0 kk f fd ps (Sp_FF_o E1 E2 Mf Rp)) (hr : Room kk X.A) (hm : X.mg x = some (.ref f)) (hk : PySem.W.keepIn X.K (.ref f) = true) (hb : Binds X.K fd ps []) (h1 : PE X e1 (tE W F Γ Δ T (k1) (fun b1 => E1 (x1 b1)) (Δ1))) (h2 : ∀ b1, PE X e2 (tE W F Γ (Δ1 b1) (k1 b1) (fun b2 => (Mf (x1 b1) (x2 b1 b2)).bind fun r => k ((b1, b2), r)) (fun b2 => E2 (x2 b1 b2)) (Δ2 b1)))
     (hg : Gl X x := by rfl) (hdb : (x == ("__debug__" : Str)) = false := by decide) (st1 : starEach [e1, e2] X.env = (false, eval e1 X.env) :: starEach [e2] X.env := by rfl) (st2 : starEach [e2] X.env = (false, eval e2 X.env) :: starEach [] X.env := by rfl) (hpl : (backTo pos (starEach [e2] X.env)).any (·.1) = false := by rfl) :
    PE X (.Call (.Name x p) [e1, e2] [] pos) (tO W F Γ Δ T k (fun b => Rp b.2) fun b => Δ2 b.1.1 b.1.2) :=
  (pe_call G hr hg hm hk hb .nil pass0 (pa_cons h1 (pa_cons (pe_ex fun b1 => h2 b1) pa_nil st2) st1) hdb st1 hpl).wk fun σ H Q ⟨ok, g, e, q⟩ => ⟨ok, g, e, fun b1 v1 H1 kb1 f1 ok1 hv1 => ⟨b1, ok1, g, kb1, fun b2 v2 H2 kb2 f2 ok2 hv2 => by
    obtain ⟨r, er, kr⟩ := bind_some kb2
    refine ⟨v1, v2, x1 b1, x2 b1 b2, rfl, ((E1 _).mono f2.fz hv1), hv2, r, er, fun v H' hk => ?_⟩
    obtain ⟨ok', st⟩ := call_o0 (W := W) ok2 hk
    exact q ((b1, b2), r) v H' kr ((f1.trans f2).trans st) (ok'.since (f1.trans f2))⟩⟩
def Sp_F_f {α1 ρ : Type} (E1 : α1 → Pd) (Mf : α1 → Option (ρ)) (Rp : ρ → Pd) : Sp := fun vs H Q _ => ∃ (v1 : V)  (a1 : α1), vs = [v1] ∧ (E1 a1).pr H v1 ∧ ∃ r, Mf a1 = some r ∧ RF ⟨H, []⟩ (fun _ => []) (Rp) r Q
theorem fn_F_f {P : Program} {w : World} {K : PySem.W.Frag} {mg : Str → Option Value} {base : Heap} {x qual : Str} {params : Arguments} {body : List Stmt} {scope : Scope} {dvs : List V} {kws : List (Str × V)} {f : Addr} {fd : FuncData} {N ps : List Str} {k : Nat} {α1 ρ : Type} {E1 : α1 → Pd} {Mf : α1 → Option (ρ)} {Rp : ρ → Pd}
    (FD : FunD K x qual params body scope dvs kws f fd) (S : FnScope N ps scope) (hl : 1 = ps.length)
    (hb : ∀ (cdv : Value) (A : Around) (outer : List Env) (s : Shared) (H : Hp) (E : XK) (hr : Room k (A.deeper (envOfC qual scope s.heap.objs.size f cdv)))  (a1 : α1), PSs (cxOf CX0 P w K mg base N qual scope f cdv A outer s H E).nox body
      (tS ⟨H, []⟩ (([E1 a1] : List Pd).map some ++ List.replicate (N.length - 1) none) [] (fF (RF ⟨H, []⟩ (fun _ => []) (Rp))) (Mf a1))) : FnOk P w K mg base CX0 (k + 1) f fd ps (Sp_F_f E1 Mf Rp) := by
  refine FD.ok S (fun vs H Q E h => ?_) (fun cdv A outer s H vs Q E hr h => ?_)
  · obtain ⟨v1, a1, rfl, _⟩ := h
    exact hl
  · obtain ⟨v1, a1, rfl, p1, r, hM, fin⟩ := h
    refine ⟨_, PSs.nox (hb cdv A outer s H E hr  a1), ok_start (Δ := []) rfl (.cons p1 (.nil)) ?_ ?_ ?_, r, hM, fin⟩
    · exact fun _ h => nomatch h
    · exact List.nodup_nil
    · exact fun _ _ h => nomatch h
theorem x_F_f {X : Cx} {W : Bool} {F : Fm} {Γ : Gm} {Δ : Δs} {γ : Type} {x : Str} {p pos : Pos} {e1 : Expr} {f : Addr} {fd : FuncData} {ps : List Str} {kk : Nat} {α1 ρ β1 : Type} {E1 : α1 → Pd} {Mf : α1 → Option (ρ)} {Rp : ρ → Pd} {T : Option γ} {Δ1 : β1 → Δs} {x1 : β1 → α1} {k : (β1) × (ρ) → Option γ}
    (G : FnOk X.prog X.w X.K X.mg X.base CX0 kk f fd ps (Sp_F_f E1 Mf Rp)) (hr : Room kk X.A) (hm : X.mg x = some (.ref f)) (hk : PySem.W.keepIn X.K (.ref f) = true) (hb : Binds X.K fd ps []) (h1 : PE X e1 (tE W F Γ Δ T (fun b1 => (Mf (x1 b1)).bind fun r => k (b1, r)) (fun b1 => E1 (x1 b1)) (Δ1)))
     (hg : Gl X x := by rfl) (hdb : (x == ("__debug__" : Str)) = false := by decide) (st1 : starEach [e1] X.env = (false, eval e1 X.env) :: starEach [] X.env := by rfl) (hpl : (backTo pos (starEach [] X.env)).any (·.1) = false := by rfl) :
    PE X (.Call (.Name x p) [e1] [] pos) (tE W F Γ Δ T k (fun b => Rp b.2) fun b => Δ1 b.1) :=
  (pe_call G hr hg hm hk hb .nil pass0 (pa_cons h1 pa_nil st1) hdb st1 hpl).wk fun σ H Q ⟨ok, g, e, q⟩ => ⟨ok, g, e, fun b1 v1 H1 kb1 f1 ok1 hv1 => by
    obtain ⟨r, er, kr⟩ := bind_some kb1
    refine ⟨v1, x1 b1, rfl, hv1, r, er, fun v H' hk hv => ?_⟩
    obtain ⟨ok', st⟩ := call_f0 (W := W) ok1 hk
    exact q (b1, r) v H' kr (f1.trans st) ok' hv⟩
def Sp_F_o {α1 ρ : Type} (E1 : α1 → Pd) (Mf : α1 → Option (ρ)) (Rp : ρ → Od) : Sp := fun vs H Q _ => ∃ (v1 : V)  (a1 : α1), vs = [v1] ∧ (E1 a1).pr H v1 ∧ ∃ r, Mf a1 = some r ∧ RO ⟨H, []⟩ (fun _ => []) (Rp) r Q
theorem fn_F_o {P : Program} {w : World} {K : PySem.W.Frag} {mg : Str → Option Value} {base : Heap} {x qual : Str} {params : Arguments} {body : List Stmt} {scope : Scope} {dvs : List V} {kws : List (Str × V)} {f : Addr} {fd : FuncData} {N ps : List Str} {k : Nat} {α1 ρ : Type} {E1 : α1 → Pd} {Mf : α1 → Option (ρ)} {Rp : ρ → Od}
    (FD : FunD K x qual params body scope dvs kws f fd) (S : FnScope N ps scope) (hl : 1 = ps.length)
    (hb : ∀ (cdv : Value) (A : Around) (outer : List Env) (s : Shared) (H : Hp) (E : XK) (hr : Room k (A.deeper (envOfC qual scope s.heap.objs.size f cdv)))  (a1 : α1), PSs (cxOf CX0 P w K mg base N qual scope f cdv A outer s H E).nox body
      (tS ⟨H, []⟩ (([E1 a1] : List Pd).map some ++ List.replicate (N.length - 1) none) [] (fF (RO ⟨H, []⟩ (fun _ => []) (Rp))) (Mf a1))) : FnOk P w K mg base CX0 (k + 1) f fd ps (Sp_F_o E1 Mf Rp) := by
  refine FD.ok S (fun vs H Q E h => ?_) (fun cdv A outer s H vs Q E hr h => ?_)
  · obtain ⟨v1, a1, rfl, _⟩ := h
    exact hl
  · obtain ⟨v1, a1, rfl, p1, r, hM, fin⟩ := h
    refine ⟨_, PSs.nox (hb cdv A outer s H E hr  a1), ok_start (Δ := []) rfl (.cons p1 (.nil)) ?_ ?_ ?_, r, hM, fin⟩
    · exact fun _ h => nomatch h
    · exact List.nodup_nil
    · exact fun _ _ h => nomatch h
theorem x_F_o {X : Cx} {W : Bool} {F : Fm} {Γ : Gm} {Δ : Δs} {γ : Type} {x : Str} {p pos : Pos} {e1 : Expr} {f : Addr} {fd : FuncData} {ps : List Str} {kk : Nat} {α1 ρ β1 : Type} {E1 : α1 → Pd} {Mf : α1 → Option (ρ)} {Rp : ρ → Od} {T : Option γ} {Δ1 : β1 → Δs} {x1 : β1 → α1} {k : (β1) × (ρ) → Option γ}
    (G : FnOk X.prog X.w X.K X.mg X.base CX0 kk f fd ps (Sp_F_o E1 Mf Rp)) (hr : Room kk X.A) (hm : X.mg x = some (.ref f)) (hk : PySem.W.keepIn X.K (.ref f) = true) (hb : Binds X.K fd ps []) (h1 : PE X e1 (tE W F Γ Δ T (fun b1 => (Mf (x1 b1)).bind fun r => k (b1, r)) (fun b1 => E1 (x1 b1)) (Δ1)))
     (hg : Gl X x := by rfl) (hdb : (x == ("__debug__" : Str)) = false := by decide) (st1 : starEach [e1] X.env = (false, eval e1 X.env) :: starEach [] X.env := by rfl) (hpl : (backTo pos (starEach [] X.env)).any (·.1) = false := by rfl) :
    PE X (.Call (.Name x p) [e1] [] pos) (tO W F Γ Δ T k (fun b => Rp b.2) fun b => Δ1 b.1) :=
  (pe_call G hr hg hm hk hb .nil pass0 (pa_cons h1 pa_nil st1) hdb st1 hpl).wk fun σ H Q ⟨ok, g, e, q⟩ => ⟨ok, g, e, fun b1 v1 H1 kb1 f1 ok1 hv1 => by
    obtain ⟨r, er, kr⟩ := bind_some kb1
    refine ⟨v1, x1 b1, rfl, hv1, r, er, fun v H' hk => ?_⟩
    obtain ⟨ok', st⟩ := call_o0 (W := W) ok1 hk
    exact q (b1, r) v H' kr (f1.trans st) (ok'.since f1)⟩
def Sp_OFFFF_f {α1 α2 α3 α4 α5 ρ : Type} (E1 : α1 → Od) (E2 : α2 → Pd) (E3 : α3 → Pd) (E4 : α4 → Pd) (E5 : α5 → Pd) (Mf : α1 → α2 → α3 → α4 → α5 → Option (ρ × α1)) (Rp : ρ → Pd) : Sp := fun vs H Q _ => ∃ (v1 v2 v3 v4 v5 : V) (G1 : List Addr) (a1 : α1) (a2 : α2) (a3 : α3) (a4 : α4) (a5 : α5), vs = [v1, v2, v3, v4, v5] ∧ (E1 a1).pr G1 H v1 ∧ G1.Nodup ∧ (E2 a2).pr H v2 ∧ (E3 a3).pr H v3 ∧ (E4 a4).pr H v4 ∧ (E5 a5).pr H v5 ∧ ∃ r, Mf a1 a2 a3 a4 a5 = some r ∧ RF ⟨H, [G1]⟩ (fun r => [⟨v1, E1 r.2, some 0⟩]) (fun r => Rp r.1) r Q
theorem fn_OFFFF_f {P : Program} {w : World} {K : PySem.W.Frag} {mg : Str → Option Value} {base : Heap} {x qual : Str} {params : Arguments} {body : List Stmt} {scope : Scope} {dvs : List V} {kws : List (Str × V)} {f : Addr} {fd : FuncData} {N ps : List Str} {k : Nat} {α1 α2 α3 α4 α5 ρ : Type} {E1 : α1 → Od} {E2 : α2 → Pd} {E3 : α3 → Pd} {E4 : α4 → Pd} {E5 : α5 → Pd} {Mf : α1 → α2 → α3 → α4 → α5 → Option (ρ × α1)} {Rp : ρ → Pd}
    (FD : FunD K x qual params body scope dvs kws f fd) (S : FnScope N ps scope) (hl : 5 = ps.length)
    (hb : ∀ (cdv : Value) (A : Around) (outer : List Env) (s : Shared) (H : Hp) (E : XK) (hr : Room k (A.deeper (envOfC qual scope s.heap.objs.size f cdv))) (v1 : V) (G1 : List Addr) (a1 : α1) (a2 : α2) (a3 : α3) (a4 : α4) (a5 : α5), PSs (cxOf CX0 P w K mg base N qual scope f cdv A outer s H E).nox body
      (tS ⟨H, [G1]⟩ (([pV v1, E2 a2, E3 a3, E4 a4, E5 a5] : List Pd).map some ++ List.replicate (N.length - 5) none) [⟨v1, E1 a1, some 0⟩] (fF (RF ⟨H, [G1]⟩ (fun r => [⟨v1, E1 r.2, some 0⟩]) (fun r => Rp r.1))) (Mf a1 a2 a3 a4 a5))) : FnOk P w K mg base CX0 (k + 1) f fd ps (Sp_OFFFF_f E1 E2 E3 E4 E5 Mf Rp) := by
  refine FD.ok S (fun vs H Q E h => ?_) (fun cdv A outer s H vs Q E hr h => ?_)
  · obtain ⟨v1, v2, v3, v4, v5, G1, a1, a2, a3, a4, a5, rfl, _⟩ := h
    exact hl
  · obtain ⟨v1, v2, v3, v4, v5, G1, a1, a2, a3, a4, a5, rfl, p1, n1, p2, p3, p4, p5, r, hM, fin⟩ := h
    refine ⟨_, PSs.nox (hb cdv A outer s H E hr v1 G1 a1 a2 a3 a4 a5), ok_start (Δ := [⟨G1, v1, E1 a1, some 0⟩]) rfl (.cons rfl (.cons p2 (.cons p3 (.cons p4 (.cons p5 (.nil)))))) ?_ ?_ ?_, r, hM, fin⟩
    · intro c hc; rw [List.mem_singleton.mp hc]; exact p1
    · rw [cellsOf_cons]; show (_ ++ []).Nodup; rw [List.append_nil]; exact n1
    · intro i c h; match i, h with | 0, h => cases h; rfl | _ + 1, h => cases h
theorem x_OFFFF_f {X : Cx} {F : Fm} {Γ : Gm} {Δ : Δs} {γ : Type} {x : Str} {p pos : Pos} {e1 e2 e3 e4 e5 : Expr} {f : Addr} {fd : FuncData} {ps : List Str} {kk : Nat} {α1 α2 α3 α4 α5 ρ β1 β2 β3 β4 β5 : Type} {E1 : α1 → Od} {E2 : α2 → Pd} {E3 : α3 → Pd} {E4 : α4 → Pd} {E5 : α5 → Pd} {Mf : α1 → α2 → α3 → α4 → α5 → Option (ρ × α1)} {Rp : ρ → Pd} {T : Option γ} {Δ1 : β1 → Δs} {k1 : β1 → Option γ} {Δ2 : β1 → β2 → Δs} {x2 : β1 → β2 → α2} {k2 : β1 → β2 → Option γ} {Δ3 : β1 → β2 → β3 → Δs} {x3 : β1 → β2 → β3 → α3} {k3 : β1 → β2 → β3 → Option γ} {Δ4 : β1 → β2 → β3 → β4 → Δs} {x4 : β1 → β2 → β3 → β4 → α4} {k4 : β1 → β2 → β3 → β4 → Option γ} {Δ5 : β1 → β2 → β3 → β4 → β5 → Δs} {x5 : β1 → β2 → β3 → β4 → β5 → α5} {v1 : V} {prm : Option Nat} {s1 : β1 → β2 → β3 → β4 → β5 → α1} {k : (β1 × β2 × β3 × β4 × β5) × (ρ × α1) → Option γ}
    (G : FnOk X.prog X.w X.K X.mg X.base CX0 kk f fd ps (Sp_OFFFF_f E1 E2 E3 E4 E5 Mf Rp)) (hr : Room kk X.A) (hm : X.mg x = some (.ref f)) (hk : PySem.W.keepIn X.K (.ref f) = true) (hb : Binds X.K fd ps []) (j : Nat) (h1 : PE X e1 (tE true F Γ Δ T (k1) (fun b1 => pV v1) (Δ1))) (h2 : ∀ b1, PE X e2 (tE true F Γ (Δ1 b1) (k1 b1) (k2 b1) (fun b2 => E2 (x2 b1 b2)) (Δ2 b1))) (h3 : ∀ b1 b2, PE X e3 (tE true F Γ (Δ2 b1 b2) (k2 b1 b2) (k3 b1 b2) (fun b3 => E3 (x3 b1 b2 b3)) (Δ3 b1 b2))) (h4 : ∀ b1 b2 b3, PE X e4 (tE true F Γ (Δ3 b1 b2 b3) (k3 b1 b2 b3) (k4 b1 b2 b3) (fun b4 => E4 (x4 b1 b2 b3 b4)) (Δ4 b1 b2 b3))) (h5 : ∀ b1 b2 b3 b4, PE X e5 (tE true F Γ (Δ4 b1 b2 b3 b4) (k4 b1 b2 b3 b4) (fun b5 => (Mf (s1 b1 b2 b3 b4 b5) (x2 b1 b2) (x3 b1 b2 b3) (x4 b1 b2 b3 b4) (x5 b1 b2 b3 b4 b5)).bind fun r => k ((b1, b2, b3, b4, b5), r)) (fun b5 => E5 (x5 b1 b2 b3 b4 b5)) (Δ5 b1 b2 b3 b4)))
    (hj : ∀ b1 b2 b3 b4 b5, (Δ5 b1 b2 b3 b4 b5)[j]? = some ⟨v1, E1 (s1 b1 b2 b3 b4 b5), prm⟩) (hg : Gl X x := by rfl) (hdb : (x == ("__debug__" : Str)) = false := by decide) (st1 : starEach [e1, e2, e3, e4, e5] X.env = (false, eval e1 X.env) :: starEach [e2, e3, e4, e5] X.env := by rfl) (st2 : starEach [e2, e3, e4, e5] X.env = (false, eval e2 X.env) :: starEach [e3, e4, e5] X.env := by rfl) (st3 : starEach [e3, e4, e5] X.env = (false, eval e3 X.env) :: starEach [e4, e5] X.env := by rfl) (st4 : starEach [e4, e5] X.env = (false, eval e4 X.env) :: starEach [e5] X.env := by rfl) (st5 : starEach [e5] X.env = (false, eval e5 X.env) :: starEach [] X.env := by rfl) (hpl : (backTo pos (starEach [e2, e3, e4, e5] X.env)).any (·.1) = false := by rfl) :
    PE X (.Call (.Name x p) [e1, e2, e3, e4, e5] [] pos) (tE true F Γ Δ T k (fun b => Rp b.2.1) fun b => (Δ5 b.1.1 b.1.2.1 b.1.2.2.1 b.1.2.2.2.1 b.1.2.2.2.2).set j ⟨v1, E1 b.2.2, prm⟩) :=
  (pe_call G hr hg hm hk hb .nil pass0 (pa_cons h1 (pa_cons (pe_ex fun b1 => h2 b1) (pa_cons (pe_ex fun b1 => pe_ex fun b2 => h3 b1 b2) (pa_cons (pe_ex fun b1 => pe_ex fun b2 => pe_ex fun b3 => h4 b1 b2 b3) (pa_cons (pe_ex fun b1 => pe_ex fun b2 => pe_ex fun b3 => pe_ex fun b4 => h5 b1 b2 b3 b4) pa_nil st5) st4) st3) st2) st1) hdb st1 hpl).wk fun σ H Q ⟨ok, g, e, q⟩ => ⟨ok, g, e, fun b1 v1 H1 kb1 f1 ok1 hv1 => ⟨b1, ok1, g, kb1, fun b2 v2 H2 kb2 f2 ok2 hv2 => ⟨b1, b2, ok2, g, kb2, fun b3 v3 H3 kb3 f3 ok3 hv3 => ⟨b1, b2, b3, ok3, g, kb3, fun b4 v4 H4 kb4 f4 ok4 hv4 => ⟨b1, b2, b3, b4, ok4, g, kb4, fun b5 v5 H5 kb5 f5 ok5 hv5 => by
    obtain ⟨r, er, kr⟩ := bind_some kb5
    have hv1 : v1 = _ := hv1
    subst hv1
    obtain ⟨G0, hcell, hnd, ret_f, ret_o⟩ := ok5.lend1 (hj b1 b2 b3 b4 b5)
    refine ⟨_, v2, v3, v4, v5, G0, s1 b1 b2 b3 b4 b5, x2 b1 b2, x3 b1 b2 b3, x4 b1 b2 b3 b4, x5 b1 b2 b3 b4 b5, rfl, hcell, hnd, ((E2 _).mono ((f3.fz.trans f4.fz).trans f5.fz) hv2), ((E3 _).mono (f4.fz.trans f5.fz) hv3), ((E4 _).mono f5.fz hv4), hv5, r, er, fun v H' hk hv => ?_⟩
    obtain ⟨ok', st⟩ := ret_f _ _ hk
    exact q ((b1, b2, b3, b4, b5), r) v H' kr (((((f1.trans f2).trans f3).trans f4).trans f5).trans st) ok' hv⟩⟩⟩⟩⟩
def Sp_OFFF_o {α1 α2 α3 α4 ρ : Type} (E1 : α1 → Od) (E2 : α2 → Pd) (E3 : α3 → Pd) (E4 : α4 → Pd) (Mf : α1 → α2 → α3 → α4 → Option (ρ × α1)) (Rp : ρ → Od) : Sp := fun vs H Q _ => ∃ (v1 v2 v3 v4 : V) (G1 : List Addr) (a1 : α1) (a2 : α2) (a3 : α3) (a4 : α4), vs = [v1, v2, v3, v4] ∧ (E1 a1).pr G1 H v1 ∧ G1.Nodup ∧ (E2 a2).pr H v2 ∧ (E3 a3).pr H v3 ∧ (E4 a4).pr H v4 ∧ ∃ r, Mf a1 a2 a3 a4 = some r ∧ RO ⟨H, [G1]⟩ (fun r => [⟨v1, E1 r.2, some 0⟩]) (fun r => Rp r.1) r Q
theorem fn_OFFF_o {P : Program} {w : World} {K : PySem.W.Frag} {mg : Str → Option Value} {base : Heap} {x qual : Str} {params : Arguments} {body : List Stmt} {scope : Scope} {dvs : List V} {kws : List (Str × V)} {f : Addr} {fd : FuncData} {N ps : List Str} {k : Nat} {α1 α2 α3 α4 ρ : Type} {E1 : α1 → Od} {E2 : α2 → Pd} {E3 : α3 → Pd} {E4 : α4 → Pd} {Mf : α1 → α2 → α3 → α4 → Option (ρ × α1)} {Rp : ρ → Od}
    (FD : FunD K x qual params body scope dvs kws f fd) (S : FnScope N ps scope) (hl : 4 = ps.length)
    (hb : ∀ (cdv : Value) (A : Around) (outer : List Env) (s : Shared) (H : Hp) (E : XK) (hr : Room k (A.deeper (envOfC qual scope s.heap.objs.size f cdv))) (v1 : V) (G1 : List Addr) (a1 : α1) (a2 : α2) (a3 : α3) (a4 : α4), PSs (cxOf CX0 P w K mg base N qual scope f cdv A outer s H E).nox body
      (tS ⟨H, [G1]⟩ (([pV v1, E2 a2, E3 a3, E4 a4] : List Pd).map some ++ List.replicate (N.length - 4) none) [⟨v1, E1 a1, some 0⟩] (fF (RO ⟨H, [G1]⟩ (fun r => [⟨v1, E1 r.2, some 0⟩]) (fun r => Rp r.1))) (Mf a1 a2 a3 a4))) : FnOk P w K mg base CX0 (k + 1) f fd ps (Sp_OFFF_o E1 E2 E3 E4 Mf Rp) := by
  refine FD.ok S (fun vs H Q E h => ?_) (fun cdv A outer s H vs Q E hr h => ?_)
  · obtain ⟨v1, v2, v3, v4, G1, a1, a2, a3, a4, rfl, _⟩ := h
    exact hl
  · obtain ⟨v1, v2, v3, v4, G1, a1, a2, a3, a4, rfl, p1, n1, p2, p3, p4, r, hM, fin⟩ := h
    refine ⟨_, PSs.nox (hb cdv A outer s H E hr v1 G1 a1 a2 a3 a4), ok_start (Δ := [⟨G1, v1, E1 a1, some 0⟩]) rfl (.cons rfl (.cons p2 (.cons p3 (.cons p4 (.nil))))) ?_ ?_ ?_, r, hM, fin⟩
    · intro c hc; rw [List.mem_singleton.mp hc]; exact p1
    · rw [cellsOf_cons]; show (_ ++ []).Nodup; rw [List.append_nil]; exact n1
    · intro i c h; match i, h with | 0, h => cases h; rfl | _ + 1, h => cases h
theorem x_OFFF_o {X : Cx} {F : Fm} {Γ : Gm} {Δ : Δs} {γ : Type} {x : Str} {p pos : Pos} {e1 e2 e3 e4 : Expr} {f : Addr} {fd : FuncData} {ps : List Str} {kk : Nat} {α1 α2 α3 α4 ρ β1 β2 β3 β4 : Type} {E1 : α1 → Od} {E2 : α2 → Pd} {E3 : α3 → Pd} {E4 : α4 → Pd} {Mf : α1 → α2 → α3 → α4 → Option (ρ × α1)} {Rp : ρ → Od} {T : Option γ} {Δ1 : β1 → Δs} {k1 : β1 → Option γ} {Δ2 : β1 → β2 → Δs} {x2 : β1 → β2 → α2} {k2 : β1 → β2 → Option γ} {Δ3 : β1 → β2 → β3 → Δs} {x3 : β1 → β2 → β3 → α3} {k3 : β1 → β2 → β3 → Option γ} {Δ4 : β1 → β2 → β3 → β4 → Δs} {x4 : β1 → β2 → β3 → β4 → α4} {v1 : V} {prm : Option Nat} {s1 : β1 → β2 → β3 → β4 → α1} {k : (β1 × β2 × β3 × β4) × (ρ × α1) → Option γ}
    (G : FnOk X.prog X.w X.K X.mg X.base CX0 kk f fd ps (Sp_OFFF_o E1 E2 E3 E4 Mf Rp)) (hr : Room kk X.A) (hm : X.mg x = some (.ref f)) (hk : PySem.W.keepIn X.K (.ref f) = true) (hb : Binds X.K fd ps []) (j : Nat) (h1 : PE X e1 (tE true F Γ Δ T (k1) (fun b1 => pV v1) (Δ1))) (h2 : ∀ b1, PE X e2 (tE true F Γ (Δ1 b1) (k1 b1) (k2 b1) (fun b2 => E2 (x2 b1 b2)) (Δ2 b1))) (h3 : ∀ b1 b2, PE X e3 (tE true F Γ (Δ2 b1 b2) (k2 b1 b2) (k3 b1 b2) (fun b3 => E3 (x3 b1 b2 b3)) (Δ3 b1 b2))) (h4 : ∀ b1 b2 b3, PE X e4 (tE true F Γ (Δ3 b1 b2 b3) (k3 b1 b2 b3) (fun b4 => (Mf (s1 b1 b2 b3 b4) (x2 b1 b2) (x3 b1 b2 b3) (x4 b1 b2 b3 b4)).bind fun r => k ((b1, b2, b3, b4), r)) (fun b4 => E4 (x4 b1 b2 b3 b4)) (Δ4 b1 b2 b3)))
    (hj : ∀ b1 b2 b3 b4, (Δ4 b1 b2 b3 b4)[j]? = some ⟨v1, E1 (s1 b1 b2 b3 b4), prm⟩) (hg : Gl X x := by rfl) (hdb : (x == ("__debug__" : Str)) = false := by decide) (st1 : starEach [e1, e2, e3, e4] X.env = (false, eval e1 X.env) :: starEach [e2, e3, e4] X.env := by rfl) (st2 : starEach [e2, e3, e4] X.env = (false, eval e2 X.env) :: starEach [e3, e4] X.env := by rfl) (st3 : starEach [e3, e4] X.env = (false, eval e3 X.env) :: starEach [e4] X.env := by rfl) (st4 : starEach [e4] X.env = (false, eval e4 X.env) :: starEach [] X.env := by rfl) (hpl : (backTo pos (starEach [e2, e3, e4] X.env)).any (·.1) = false := by rfl) :
    PE X (.Call (.Name x p) [e1, e2, e3, e4] [] pos) (tO true F Γ Δ T k (fun b => Rp b.2.1) fun b => (Δ4 b.1.1 b.1.2.1 b.1.2.2.1 b.1.2.2.2).set j ⟨v1, E1 b.2.2, prm⟩) :=
  (pe_call G hr hg hm hk hb .nil pass0 (pa_cons h1 (pa_cons (pe_ex fun b1 => h2 b1) (pa_cons (pe_ex fun b1 => pe_ex fun b2 => h3 b1 b2) (pa_cons (pe_ex fun b1 => pe_ex fun b2 => pe_ex fun b3 => h4 b1 b2 b3) pa_nil st4) st3) st2) st1) hdb st1 hpl).wk fun σ H Q ⟨ok, g, e, q⟩ => ⟨ok, g, e, fun b1 v1 H1 kb1 f1 ok1 hv1 => ⟨b1, ok1, g, kb1, fun b2 v2 H2 kb2 f2 ok2 hv2 => ⟨b1, b2, ok2, g, kb2, fun b3 v3 H3 kb3 f3 ok3 hv3 => ⟨b1, b2, b3, ok3, g, kb3, fun b4 v4 H4 kb4 f4 ok4 hv4 => by
    obtain ⟨r, er, kr⟩ := bind_some kb4
    have hv1 : v1 = _ := hv1
    subst hv1
    obtain ⟨G0, hcell, hnd, ret_f, ret_o⟩ := ok4.lend1 (hj b1 b2 b3 b4)
    refine ⟨_, v2, v3, v4, G0, s1 b1 b2 b3 b4, x2 b1 b2, x3 b1 b2 b3, x4 b1 b2 b3 b4, rfl, hcell, hnd, ((E2 _).mono (f3.fz.trans f4.fz) hv2), ((E3 _).mono f4.fz hv3), hv4, r, er, fun v H' hk => ?_⟩
    obtain ⟨ok', st⟩ := ret_o _ _ _ _ hk
    exact q ((b1, b2, b3, b4), r) v H' kr ((((f1.trans f2).trans f3).trans f4).trans st) (ok'.since (((f1.trans f2).trans f3).trans f4))⟩⟩⟩⟩
def Sp_OFF_o {α1 α2 α3 ρ : Type} (E1 : α1 → Od) (E2 : α2 → Pd) (E3 : α3 → Pd) (Mf : α1 → α2 → α3 → Option (ρ × α1)) (Rp : ρ → Od) : Sp := fun vs H Q _ => ∃ (v1 v2 v3 : V) (G1 : List Addr) (a1 : α1) (a2 : α2) (a3 : α3), vs = [v1, v2, v3] ∧ (E1 a1).pr G1 H v1 ∧ G1.Nodup ∧ (E2 a2).pr H v2 ∧ (E3 a3).pr H v3 ∧ ∃ r, Mf a1 a2 a3 = some r ∧ RO ⟨H, [G1]⟩ (fun r => [⟨v1, E1 r.2, some 0⟩]) (fun r => Rp r.1) r Q
theorem fn_OFF_o {P : Program} {w : World} {K : PySem.W.Frag} {mg : Str → Option Value} {base : Heap} {x qual : Str} {params : Arguments} {body : List Stmt} {scope : Scope} {dvs : List V} {kws : List (Str × V)} {f : Addr} {fd : FuncData} {N ps : List Str} {k : Nat} {α1 α2 α3 ρ : Type} {E1 : α1 → Od} {E2 : α2 → Pd} {E3 : α3 → Pd} {Mf : α1 → α2 → α3 → Option (ρ × α1)} {Rp : ρ → Od}
    (FD : FunD K x qual params body scope dvs kws f fd) (S : FnScope N ps scope) (hl : 3 = ps.length)
    (hb : ∀ (cdv : Value) (A : Around) (outer : List Env) (s : Shared) (H : Hp) (E : XK) (hr : Room k (A.deeper (envOfC qual scope s.heap.objs.size f cdv))) (v1 : V) (G1 : List Addr) (a1 : α1) (a2 : α2) (a3 : α3), PSs (cxOf CX0 P w K mg base N qual scope f cdv A outer s H E).nox body
      (tS ⟨H, [G1]⟩ (([pV v1, E2 a2, E3 a3] : List Pd).map some ++ List.replicate (N.length - 3) none) [⟨v1, E1 a1, some 0⟩] (fF (RO ⟨H, [G1]⟩ (fun r => [⟨v1, E1 r.2, some 0⟩]) (fun r => Rp r.1))) (Mf a1 a2 a3))) : FnOk P w K mg base CX0 (k + 1) f fd ps (Sp_OFF_o E1 E2 E3 Mf Rp) := by
  refine FD.ok S (fun vs H Q E h => ?_) (fun cdv A outer s H vs Q E hr h => ?_)
  · obtain ⟨v1, v2, v3, G1, a1, a2, a3, rfl, _⟩ := h
    exact hl
  · obtain ⟨v1, v2, v3, G1, a1, a2, a3, rfl, p1, n1, p2, p3, r, hM, fin⟩ := h
    refine ⟨_, PSs.nox (hb cdv A outer s H E hr v1 G1 a1 a2 a3), ok_start (Δ := [⟨G1, v1, E1 a1, some 0⟩]) rfl (.cons rfl (.cons p2 (.cons p3 (.nil)))) ?_ ?_ ?_, r, hM, fin⟩
    · intro c hc; rw [List.mem_singleton.mp hc]; exact p1
    · rw [cellsOf_cons]; show (_ ++ []).Nodup; rw [List.append_nil]; exact n1
    · intro i c h; match i, h with | 0, h => cases h; rfl | _ + 1, h => cases h
theorem x_OFF_o {X : Cx} {F : Fm} {Γ : Gm} {Δ : Δs} {γ : Type} {x : Str} {p pos : Pos} {e1 e2 e3 : Expr} {f : Addr} {fd : FuncData} {ps : List Str} {kk : Nat} {α1 α2 α3 ρ β1 β2 β3 : Type} {E1 : α1 → Od} {E2 : α2 → Pd} {E3 : α3 → Pd} {Mf : α1 → α2 → α3 → Option (ρ × α1)} {Rp : ρ → Od} {T : Option γ} {Δ1 : β1 → Δs} {k1 : β1 → Option γ} {Δ2 : β1 → β2 → Δs} {x2 : β1 → β2 → α2} {k2 : β1 → β2 → Option γ} {Δ3 : β1 → β2 → β3 → Δs} {x3 : β1 → β2 → β3 → α3} {v1 : V} {prm : Option Nat} {s1 : β1 → β2 → β3 → α1} {k : (β1 × β2 × β3) × (ρ × α1) → Option γ}
    (G : FnOk X.prog X.w X.K X.mg X.base CX0 kk f fd ps (Sp_OFF_o E1 E2 E3 Mf Rp)) (hr : Room kk X.A) (hm : X.mg x = some (.ref f)) (hk : PySem.W.keepIn X.K (.ref f) = true) (hb : Binds X.K fd ps []) (j : Nat) (h1 : PE X e1 (tE true F Γ Δ T (k1) (fun b1 => pV v1) (Δ1))) (h2 : ∀ b1, PE X e2 (tE true F Γ (Δ1 b1) (k1 b1) (k2 b1) (fun b2 => E2 (x2 b1 b2)) (Δ2 b1))) (h3 : ∀ b1 b2, PE X e3 (tE true F Γ (Δ2 b1 b2) (k2 b1 b2) (fun b3 => (Mf (s1 b1 b2 b3) (x2 b1 b2) (x3 b1 b2 b3)).bind fun r => k ((b1, b2, b3), r)) (fun b3 => E3 (x3 b1 b2 b3)) (Δ3 b1 b2)))
    (hj : ∀ b1 b2 b3, (Δ3 b1 b2 b3)[j]? = some ⟨v1, E1 (s1 b1 b2 b3), prm⟩) (hg : Gl X x := by rfl) (hdb : (x == ("__debug__" : Str)) = false := by decide) (st1 : starEach [e1, e2, e3] X.env = (false, eval e1 X.env) :: starEach [e2, e3] X.env := by rfl) (st2 : starEach [e2, e3] X.env = (false, eval e2 X.env) :: starEach [e3] X.env := by rfl) (st3 : starEach [e3] X.env = (false, eval e3 X.env) :: starEach [] X.env := by rfl) (hpl : (backTo pos (starEach [e2, e3] X.env)).any (·.1) = false := by rfl) :
    PE X (.Call (.Name x p) [e1, e2, e3] [] pos) (tO true F Γ Δ T k (fun b => Rp b.2.1) fun b => (Δ3 b.1.1 b.1.2.1 b.1.2.2).set j ⟨v1, E1 b.2.2, prm⟩) :=
  (pe_call G hr hg hm hk hb .nil pass0 (pa_cons h1 (pa_cons (pe_ex fun b1 => h2 b1) (pa_cons (pe_ex fun b1 => pe_ex fun b2 => h3 b1 b2) pa_nil st3) st2) st1) hdb st1 hpl).wk fun σ H Q ⟨ok, g, e, q⟩ => ⟨ok, g, e, fun b1 v1 H1 kb1 f1 ok1 hv1 => ⟨b1, ok1, g, kb1, fun b2 v2 H2 kb2 f2 ok2 hv2 => ⟨b1, b2, ok2, g, kb2, fun b3 v3 H3 kb3 f3 ok3 hv3 => by
    obtain ⟨r, er, kr⟩ := bind_some kb3
    have hv1 : v1 = _ := hv1
    subst hv1
    obtain ⟨G0, hcell, hnd, ret_f, ret_o⟩ := ok3.lend1 (hj b1 b2 b3)
    refine ⟨_, v2, v3, G0, s1 b1 b2 b3, x2 b1 b2, x3 b1 b2 b3, rfl, hcell, hnd, ((E2 _).mono f3.fz hv2), hv3, r, er, fun v H' hk => ?_⟩
    obtain ⟨ok', st⟩ := ret_o _ _ _ _ hk
    exact q ((b1, b2, b3), r) v H' kr (((f1.trans f2).trans f3).trans st) (ok'.since ((f1.trans f2).trans f3))⟩⟩⟩
def Sp_OF_f {α1 α2 ρ : Type} (E1 : α1 → Od) (E2 : α2 → Pd) (Mf : α1 → α2 → Option (ρ × α1)) (Rp : ρ → Pd) : Sp := fun vs H Q _ => ∃ (v1 v2 : V) (G1 : List Addr) (a1 : α1) (a2 : α2), vs = [v1, v2] ∧ (E1 a1).pr G1 H v1 ∧ G1.Nodup ∧ (E2 a2).pr H v2 ∧ ∃ r, Mf a1 a2 = some r ∧ RF ⟨H, [G1]⟩ (fun r => [⟨v1, E1 r.2, some 0⟩]) (fun r => Rp r.1) r Q
theorem fn_OF_f {P : Program} {w : World} {K : PySem.W.Frag} {mg : Str → Option Value} {base : Heap} {x qual : Str} {params : Arguments} {body : List Stmt} {scope : Scope} {dvs : List V} {kws : List (Str × V)} {f : Addr} {fd : FuncData} {N ps : List Str} {k : Nat} {α1 α2 ρ : Type} {E1 : α1 → Od} {E2 : α2 → Pd} {Mf : α1 → α2 → Option (ρ × α1)} {Rp : ρ → Pd}
    (FD : FunD K x qual params body scope dvs kws f fd) (S : FnScope N ps scope) (hl : 2 = ps.length)
    (hb : ∀ (cdv : Value) (A : Around) (outer : List Env) (s : Shared) (H : Hp) (E : XK) (hr : Room k (A.deeper (envOfC qual scope s.heap.objs.size f cdv))) (v1 : V) (G1 : List Addr) (a1 : α1) (a2 : α2), PSs (cxOf CX0 P w K mg base N qual scope f cdv A outer s H E).nox body
      (tS ⟨H, [G1]⟩ (([pV v1, E2 a2] : List Pd).map some ++ List.replicate (N.length - 2) none) [⟨v1, E1 a1, some 0⟩] (fF (RF ⟨H, [G1]⟩ (fun r => [⟨v1, E1 r.2, some 0⟩]) (fun r => Rp r.1))) (Mf a1 a2))) : FnOk P w K mg base CX0 (k + 1) f fd ps (Sp_OF_f E1 E2 Mf Rp) := by
  refine FD.ok S (fun vs H Q E h => ?_) (fun cdv A outer s H vs Q E hr h => ?_)
  · obtain ⟨v1, v2, G1, a1, a2, rfl, _⟩ := h
    exact hl
  · obtain ⟨v1, v2, G1, a1, a2, rfl, p1, n1, p2, r, hM, fin⟩ := h
    refine ⟨_, PSs.nox (hb cdv A outer s H E hr v1 G1 a1 a2), ok_start (Δ := [⟨G1, v1, E1 a1, some 0⟩]) rfl (.cons rfl (.cons p2 (.nil))) ?_ ?_ ?_, r, hM, fin⟩
    · intro c hc; rw [List.mem_singleton.mp hc]; exact p1
    · rw [cellsOf_cons]; show (_ ++ []).Nodup; rw [List.append_nil]; exact n1
    · intro i c h; match i, h with | 0, h => cases h; rfl | _ + 1, h => cases h
theorem x_OF_f {X : Cx} {F : Fm} {Γ : Gm} {Δ : Δs} {γ : Type} {x : Str} {p pos : Pos} {e1 e2 : Expr} {f : Addr} {fd : FuncData} {ps : List Str} {kk : Nat} {α1 α2 ρ β1 β2 : Type} {E1 : α1 → Od} {E2 : α2 → Pd} {Mf : α1 → α2 → Option (ρ × α1)} {Rp : ρ → Pd} {T : Option γ} {Δ1 : β1 → Δs} {k1 : β1 → Option γ} {Δ2 : β1 → β2 → Δs} {x2 : β1 → β2 → α2} {v1 : V} {prm : Option Nat} {s1 : β1 → β2 → α1} {k : (β1 × β2) × (ρ × α1) → Option γ}
    (G : FnOk X.prog X.w X.K X.mg X.base CX0 kk f fd ps (Sp_OF_f E1 E2 Mf Rp)) (hr : Room kk X.A) (hm : X.mg x = some (.ref f)) (hk : PySem.W.keepIn X.K (.ref f) = true) (hb : Binds X.K fd ps []) (j : Nat) (h1 : PE X e1 (tE true F Γ Δ T (k1) (fun b1 => pV v1) (Δ1))) (h2 : ∀ b1, PE X e2 (tE true F Γ (Δ1 b1) (k1 b1) (fun b2 => (Mf (s1 b1 b2) (x2 b1 b2)).bind fun r => k ((b1, b2), r)) (fun b2 => E2 (x2 b1 b2)) (Δ2 b1)))
    (hj : ∀ b1 b2, (Δ2 b1 b2)[j]? = some ⟨v1, E1 (s1 b1 b2), prm⟩) (hg : Gl X x := by rfl) (hdb : (x == ("__debug__" : Str)) = false := by decide) (st1 : starEach [e1, e2] X.env = (false, eval e1 X.env) :: starEach [e2] X.env := by rfl) (st2 : starEach [e2] X.env = (false, eval e2 X.env) :: starEach [] X.env := by rfl) (hpl : (backTo pos (starEach [e2] X.env)).any (·.1) = false := by rfl) :
    PE X (.Call (.Name x p) [e1, e2] [] pos) (tE true F Γ Δ T k (fun b => Rp b.2.1) fun b => (Δ2 b.1.1 b.1.2).set j ⟨v1, E1 b.2.2, prm⟩) :=
  (pe_call G hr hg hm hk hb .nil pass0 (pa_cons h1 (pa_cons (pe_ex fun b1 => h2 b1) pa_nil st2) st1) hdb st1 hpl).wk fun σ H Q ⟨ok, g, e, q⟩ => ⟨ok, g, e, fun b1 v1 H1 kb1 f1 ok1 hv1 => ⟨b1, ok1, g, kb1, fun b2 v2 H2 kb2 f2 ok2 hv2 => by
    obtain ⟨r, er, kr⟩ := bind_some kb2
    have hv1 : v1 = _ := hv1
    subst hv1
    obtain ⟨G0, hcell, hnd, ret_f, ret_o⟩ := ok2.lend1 (hj b1 b2)
    refine ⟨_, v2, G0, s1 b1 b2, x2 b1 b2, rfl, hcell, hnd, hv2, r, er, fun v H' hk hv => ?_⟩
    obtain ⟨ok', st⟩ := ret_f _ _ hk
    exact q ((b1, b2), r) v H' kr ((f1.trans f2).trans st) ok' hv⟩⟩
def Sp_OF_o {α1 α2 ρ : Type} (E1 : α1 → Od) (E2 : α2 → Pd) (Mf : α1 → α2 → Option (ρ × α1)) (Rp : ρ → Od) : Sp := fun vs H Q _ => ∃ (v1 v2 : V) (G1 : List Addr) (a1 : α1) (a2 : α2), vs = [v1, v2] ∧ (E1 a1).pr G1 H v1 ∧ G1.Nodup ∧ (E2 a2).pr H v2 ∧ ∃ r, Mf a1 a2 = some r ∧ RO ⟨H, [G1]⟩ (fun r => [⟨v1, E1 r.2, some 0⟩]) (fun r => Rp r.1) r Q
theorem fn_OF_o {P : Program} {w : World} {K : PySem.W.Frag} {mg : Str → Option Value} {base : Heap} {x qual : Str} {params : Arguments} {body : List Stmt} {scope : Scope} {dvs : List V} {kws : List (Str × V)} {f : Addr} {fd : FuncData} {N ps : List Str} {k : Nat} {α1 α2 ρ : Type} {E1 : α1 → Od} {E2 : α2 → Pd} {Mf : α1 → α2 → Option (ρ × α1)} {Rp : ρ → Od}
    (FD : FunD K x qual params body scope dvs kws f fd) (S : FnScope N ps scope) (hl : 2 = ps.length)
    (hb : ∀ (cdv : Value) (A : Around) (outer : List Env) (s : Shared) (H : Hp) (E : XK) (hr : Room k (A.deeper (envOfC qual scope s.heap.objs.size f cdv))) (v1 : V) (G1 : List Addr) (a1 : α1) (a2 : α2), PSs (cxOf CX0 P w K mg base N qual scope f cdv A outer s H E).nox body
      (tS ⟨H, [G1]⟩ (([pV v1, E2 a2] : List Pd).map some ++ List.replicate (N.length - 2) none) [⟨v1, E1 a1, some 0⟩] (fF (RO ⟨H, [G1]⟩ (fun r => [⟨v1, E1 r.2, some 0⟩]) (fun r => Rp r.1))) (Mf a1 a2))) : FnOk P w K mg base CX0 (k + 1) f fd ps (Sp_OF_o E1 E2 Mf Rp) := by
  refine FD.ok S (fun vs H Q E h => ?_) (fun cdv A outer s H vs Q E hr h => ?_)
  · obtain ⟨v1, v2, G1, a1, a2, rfl, _⟩ := h
    exact hl
  · obtain ⟨v1, v2, G1, a1, a2, rfl, p1, n1, p2, r, hM, fin⟩ := h
    refine ⟨_, PSs.nox (hb cdv A outer s H E hr v1 G1 a1 a2), ok_start (Δ := [⟨G1, v1, E1 a1, some 0⟩]) rfl (.cons rfl (.cons p2 (.nil))) ?_ ?_ ?_, r, hM, fin⟩
    · intro c hc; rw [List.mem_singleton.mp hc]; exact p1
    · rw [cellsOf_cons]; show (_ ++ []).Nodup; rw [List.append_nil]; exact n1
    · intro i c h; match i, h with | 0, h => cases h; rfl | _ + 1, h => cases h
theorem x_OF_o {X : Cx} {F : Fm} {Γ : Gm} {Δ : Δs} {γ : Type} {x : Str} {p pos : Pos} {e1 e2 : Expr} {f : Addr} {fd : FuncData} {ps : List Str} {kk : Nat} {α1 α2 ρ β1 β2 : Type} {E1 : α1 → Od} {E2 : α2 → Pd} {Mf : α1 → α2 → Option (ρ × α1)} {Rp : ρ → Od} {T : Option γ} {Δ1 : β1 → Δs} {k1 : β1 → Option γ} {Δ2 : β1 → β2 → Δs} {x2 : β1 → β2 → α2} {v1 : V} {prm : Option Nat} {s1 : β1 → β2 → α1} {k : (β1 × β2) × (ρ × α1) → Option γ}
    (G : FnOk X.prog X.w X.K X.mg X.base CX0 kk f fd ps (Sp_OF_o E1 E2 Mf Rp)) (hr : Room kk X.A) (hm : X.mg x = some (.ref f)) (hk : PySem.W.keepIn X.K (.ref f) = true) (hb : Binds X.K fd ps []) (j : Nat) (h1 : PE X e1 (tE true F Γ Δ T (k1) (fun b1 => pV v1) (Δ1))) (h2 : ∀ b1, PE X e2 (tE true F Γ (Δ1 b1) (k1 b1) (fun b2 => (Mf (s1 b1 b2) (x2 b1 b2)).bind fun r => k ((b1, b2), r)) (fun b2 => E2 (x2 b1 b2)) (Δ2 b1)))
    (hj : ∀ b1 b2, (Δ2 b1 b2)[j]? = some ⟨v1, E1 (s1 b1 b2), prm⟩) (hg : Gl X x := by rfl) (hdb : (x == ("__debug__" : Str)) = false := by decide) (st1 : starEach [e1, e2] X.env = (false, eval e1 X.env) :: starEach [e2] X.env := by rfl) (st2 : starEach [e2] X.env = (false, eval e2 X.env) :: starEach [] X.env := by rfl) (hpl : (backTo pos (starEach [e2] X.env)).any (·.1) = false := by rfl) :
    PE X (.Call (.Name x p) [e1, e2] [] pos) (tO true F Γ Δ T k (fun b => Rp b.2.1) fun b => (Δ2 b.1.1 b.1.2).set j ⟨v1, E1 b.2.2, prm⟩) :=
  (pe_call G hr hg hm hk hb .nil pass0 (pa_cons h1 (pa_cons (pe_ex fun b1 => h2 b1) pa_nil st2) st1) hdb st1 hpl).wk fun σ H Q ⟨ok, g, e, q⟩ => ⟨ok, g, e, fun b1 v1 H1 kb1 f1 ok1 hv1 => ⟨b1, ok1, g, kb1, fun b2 v2 H2 kb2 f2 ok2 hv2 => by
    obtain ⟨r, er, kr⟩ := bind_some kb2
    have hv1 : v1 = _ := hv1
    subst hv1
    obtain ⟨G0, hcell, hnd, ret_f, ret_o⟩ := ok2.lend1 (hj b1 b2)
    refine ⟨_, v2, G0, s1 b1 b2, x2 b1 b2, rfl, hcell, hnd, hv2, r, er, fun v H' hk => ?_⟩
    obtain ⟨ok', st⟩ := ret_o _ _ _ _ hk
    exact q ((b1, b2), r) v H' kr ((f1.trans f2).trans st) (ok'.since (f1.trans f2))⟩⟩
theorem x_PF_f {X : Cx} {F : Fm} {Γ : Gm} {Δ : Δs} {γ : Type} {x : Str} {p pos : Pos} {e1 e2 : Expr} {f : Addr} {fd : FuncData} {ps : List Str} {kk : Nat} {α1 α2 ρ β1 β2 : Type} {E1 : α1 → Od} {E2 : α2 → Pd} {Mf : α1 → α2 → Option (ρ × α1)} {Rp : ρ → Pd} {T : Option γ} {v : V} {d : Od} {prm : Option Nat} {back : β1 → α1 → Od} {x1 : β1 → α1} {k1 : β1 → Option γ} {x2 : β1 → β2 → α2} {k : (β1 × β2) × (ρ × α1) → Option γ}
    (G : FnOk X.prog X.w X.K X.mg X.base CX0 kk f fd ps (Sp_OF_f E1 E2 Mf Rp)) (hr : Room kk X.A) (hm : X.mg x = some (.ref f)) (hk : PySem.W.keepIn X.K (.ref f) = true) (hb : Binds X.K fd ps []) (j : Nat) (h1 : PE X e1 (tFo F Γ Δ T (k1) v d E1 x1 back)) (h2 : ∀ b1, PE X e2 (tE false F Γ Δ (k1 b1) (fun b2 => (Mf (x1 b1) (x2 b1 b2)).bind fun r => k ((b1, b2), r)) (fun b2 => E2 (x2 b1 b2)) fun _ => Δ)) (hj : Δ[j]? = some ⟨v, d, prm⟩ := by rfl)
    (hg : Gl X x := by rfl) (hdb : (x == ("__debug__" : Str)) = false := by decide) (st1 : starEach [e1, e2] X.env = (false, eval e1 X.env) :: starEach [e2] X.env := by rfl) (st2 : starEach [e2] X.env = (false, eval e2 X.env) :: starEach [] X.env := by rfl) (hpl : (backTo pos (starEach [e2] X.env)).any (·.1) = false := by rfl) :
    PE X (.Call (.Name x p) [e1, e2] [] pos) (tE true F Γ Δ T k (fun b => Rp b.2.1) fun b => Δ.set j ⟨v, back b.1.1 b.2.2, prm⟩) :=
  (pe_call G hr hg hm hk hb .nil pass0 (pa_cons h1 (pa_cons (pe_ex fun b1 => h2 b1) pa_nil st2) st1) hdb st1 hpl).wk fun σ H Q ⟨ok, g, e, q⟩ => ⟨ok, g, e, fun b1 v1 H1 kb1 f1 ok1 fo => ⟨b1, ok1, g, kb1, fun b2 v2 H2 kb2 f2 ok2 hv2 => by
    obtain ⟨r, er, kr⟩ := bind_some kb2
    obtain ⟨G2, hcell, hnd, ret_f⟩ := ok2.lendF hj (fo.gr f2.gr)
    refine ⟨v1, v2, G2, x1 b1, x2 b1 b2, rfl, hcell, hnd, hv2, r, er, fun v H' hk hv => ?_⟩
    obtain ⟨ok', st⟩ := ret_f _ _ hk
    exact q ((b1, b2), r) v H' kr ((f1.trans f2.gr).st.trans st) ok' hv⟩⟩
end L3
end
section
set_option maxHeartbeats 4000000
set_option synthInstance.maxSize 2000
noncomputable section
namespace My
open PySem PySem.Spec PyProof.Rows L2 L3
@[irreducible] def M_common (a1 : List Int) (a2 : List Int) : Option (List Int) :=
  some ((a1.filter fun x2 => (decide (x2 ∈ a2))).map fun x2 => x2)
@[irreducible] def M_filled (a1 : List (Str × List Int)) (a2 : List (Str × List Int)) : Option (Except Er (List (Str × List Int))) :=
  (dcM a2 ([] : List (Str × List Int)) (fun x4 => some (x4.1, x4.2))).bind fun r7 => (some (r7 : List (Str × List Int))).bind fun x8 => (forL (a1.map Prod.fst) (() : Unit) fun x14 s13 => if (!dhas x8 x14) = true then inB (some ((fun e => Tm.rt ((Except.error) e)) (⟨"UnknownName", [.str x14]⟩ : Er))) else some (Bo.nx ())).bind (boK (fun s15 => (some (([] : List (Str × List Int)) : List (Str × List Int))).bind fun x16 => (forS (x8.map Prod.fst) (x16 : (List (Str × List Int))) fun x22 s21 => (if (dhas a1 x22) = true then (dget a1 x22).bind fun x27 => (dget x8 x22).bind fun x28 => (M_common x27 x28).bind fun r29 => grd (s21.length < sizeLine) (some (dput s21 x22 r29)) else (dget x8 x22).bind fun x32 => grd (s21.length < sizeLine) (some (dput s21 x22 x32))).bind fun s26 => some s26).bind fun s23 => some (Except.ok (ε := Er) s23)) id)
@[irreducible] def M_trimmed (a1 : List (Str × List Int)) (a2 : List (Str × List Int)) : Option (Except Er (List (Str × List Int))) :=
  (M_filled a1 a2).bind (xK (Except.error) fun r36 => (some (r36 : List (Str × List Int))).bind fun x37 => (dcF a2 ([] : List (Str × (Str × (List Int)))) (fun x41 => (dget x37 (x41.1)).bind fun x47 => if (decide ((x47.length : Int) < ((x41.2).length : Int))) = true then (dget x37 (x41.1)).bind fun y45 => some (some (x41.1, (x41.1, y45))) else some none)).bind fun r46 => grd (tkOk x37 r46 = true) (some (Except.ok (ε := Er) (r46.map fun q_ => (q_.1, q_.2.2)))))
@[irreducible] def M_l_is_integer (a1 : Int) : Option (Bool) :=
  some (true && (!false))
@[irreducible] def M_l_stream (a1 : List Int) (a2 : Int) : Option (List Int) :=
  (some ((0 : Int) : Int)).bind fun x48 => (if (decide (a2 < (a1.length : Int))) = true then (atI a1 a2).bind fun x52 => (some (x52 : Int)).bind fun x53 => some x53 else some x48).bind fun s51 => grd ((sm s51 || sm (if (decide (((10 : Int) ^ (18 : Int).toNat) ≤ s51)) then 1 else 0 : Int)) = true) (some ([(s51 * (if (decide (((10 : Int) ^ (18 : Int).toNat) ≤ s51)) then 1 else 0 : Int)), (0 : Int), s51]))
@[irreducible] def M_l_next (a1 : List Int) (a2 : Int) : Option (Int × (List Int)) :=
  (atI a1 (1 : Int)).bind fun x55 => (ixN a1.length (1 : Int)).bind fun (_ : Nat) => (atI (a1.set ((ixN a1.length (1 : Int)).getD 0) (x55 + (1 : Int))) (0 : Int)).bind fun x57 => if (decide ((0 : Int) < x57)) = true then (atI (a1.set ((ixN a1.length (1 : Int)).getD 0) (x55 + (1 : Int))) (0 : Int)).bind fun x59 => grd (0 < a2) ((some ((x59 % a2) : Int)).bind fun x60 => (atI (a1.set ((ixN a1.length (1 : Int)).getD 0) (x55 + (1 : Int))) (0 : Int)).bind fun x62 => grd (dv a2 = true) ((ixN (a1.set ((ixN a1.length (1 : Int)).getD 0) (x55 + (1 : Int))).length (0 : Int)).bind fun (_ : Nat) => some (x60, ((a1.set ((ixN a1.length (1 : Int)).getD 0) (x55 + (1 : Int))).set ((ixN (a1.set ((ixN a1.length (1 : Int)).getD 0) (x55 + (1 : Int))).length (0 : Int)).getD 0) (x62 / a2))))) else (atI (a1.set ((ixN a1.length (1 : Int)).getD 0) (x55 + (1 : Int))) (2 : Int)).bind fun x64 => (atI (a1.set ((ixN a1.length (1 : Int)).getD 0) (x55 + (1 : Int))) (1 : Int)).bind fun x65 => grd ((sm (7919 : Int) || sm x65) = true) (grd (0 < (2147483647 : Int)) ((some ((((x64 + ((7919 : Int) * x65)) + (13 : Int)) % (2147483647 : Int)) : Int)).bind fun x66 => grd ((sm x66 || sm (x66 + (48271 : Int))) = true) (grd (0 < (2147483629 : Int)) ((some (((x66 * (x66 + (48271 : Int))) % (2147483629 : Int)) : Int)).bind fun x68 => grd ((sm x68 || sm (x68 + (69621 : Int))) = true) ((atI (a1.set ((ixN a1.length (1 : Int)).getD 0) (x55 + (1 : Int))) (1 : Int)).bind fun x70 => grd ((sm (31 : Int) || sm x70) = true) (grd (0 < (2147483647 : Int)) ((some ((((x68 * (x68 + (69621 : Int))) + ((31 : Int) * x70)) % (2147483647 : Int)) : Int)).bind fun x71 => grd (dv (9 : Int) = true) (grd (0 < a2) (some (((x71 / (9 : Int)) % a2), (a1.set ((ixN a1.length (1 : Int)).getD 0) (x55 + (1 : Int)))))))))))))
@[irreducible] def M_l_names (a1 : List Int) (a2 : Int) : Option ((List Str) × (List Int)) :=
  (M_l_next a1 (3 : Int)).bind fun r73 => if (decide ((r73.1) = (0 : Int))) = true then (M_l_next (r73.2) (8 : Int)).bind fun r75 => (some (r75.1 : Int)).bind fun x76 => (some ([("x" : Str), ("yard" : Str), ("z" : Str), ("u" : Str), ("wide_one" : Str), ("q" : Str), ("pp" : Str), ("t" : Str)] : List Str)).bind fun x78 => grd (rg a2 = true) ((compM (rngL 0 a2.toNat) () (fun x81 s83 => if true = true then grd ((sm x81 || sm (3 : Int)) = true) (grd (0 < (8 : Int)) ((atI x78 (((x81 * (3 : Int)) + x76) % (8 : Int))).bind fun x85 => some (some x85, ()))) else some (none, ()))).bind fun r86 => some (r86.1, r75.2)) else (some (("qwertyuiopasdfghjklzxcvbnm_zyx" : Str) : Str)).bind fun x87 => (some ([] : List Str)).bind fun x89 => grd (rg a2 = true) ((forS (rngL 0 a2.toNat) ((x89, r73.2) : (List Str) × (List Int)) fun x95 s94 => (M_l_next (s94.2) (26 : Int)).bind fun r97 => (some (r97.1 : Int)).bind fun x98 => (M_l_next (r97.2) (3 : Int)).bind fun r100 => (some (((1 : Int) + (r100.1)) : Int)).bind fun x101 => (M_l_next (r100.2) (3 : Int)).bind fun r103 => grd (x87.length ≤ sizeLine) ((some ((cutS x87 (some ((26 : Int) - (r103.1))) (some (26 : Int))) : Str)).bind fun x104 => grd (x87.length ≤ sizeLine) (grd (("7305186429" : Str).length ≤ sizeLine) ((atI ("7305186429" : Str).cps.toList x95).bind fun x106 => grd ((cutS x87 (some x98) (some (x98 + x101))).length + (⟨#[x106]⟩ : Str).length ≤ sizeLine) (grd (((cutS x87 (some x98) (some (x98 + x101))) ++ (⟨#[x106]⟩ : Str)).length + x104.length ≤ sizeLine) (grd ((s94.1).length < sizeLine) (some (((s94.1) ++ [(((cutS x87 (some x98) (some (x98 + x101))) ++ (⟨#[x106]⟩ : Str)) ++ x104)]), r103.2)))))))).bind fun s96 => some (s96.1, s96.2))
@[irreducible] def M_l_pool (a1 : List Int) (a2 : Int) : Option ((List Int) × (List Int)) :=
  (M_l_next a1 (9 : Int)).bind fun r108 => (some ([((r108.1) - (4 : Int))] : List Int)).bind fun x109 => grd (rg (a2 - (1 : Int)) = true) ((forS (rngL 0 (a2 - (1 : Int)).toNat) ((x109, r108.2) : (List Int) × (List Int)) fun x115 s114 => (atI (s114.1) x115).bind fun x126 => (M_l_next (s114.2) (4 : Int)).bind fun r127 => grd (dv (3 : Int) = true) (grd ((sm (2 : Int) || sm ((r127.1) / (3 : Int))) = true) (grd ((s114.1).length < sizeLine) (some (((s114.1) ++ [((x126 + (1 : Int)) + ((2 : Int) * ((r127.1) / (3 : Int))))]), r127.2))))).bind fun s116 => (M_l_next (s116.2) (8 : Int)).bind fun r117 => (atI ([(1 : Int), (1 : Int), (1 : Int), (1 : Int), (1 : Int), (1 : Int), (7 : Int), ((10 : Int) ^ (9 : Int).toNat)]) (r117.1)).bind fun x118 => (some (x118 : Int)).bind fun x119 => (compM (s116.1) () (fun x122 s123 => if true = true then grd ((sm x122 || sm x119) = true) (some (some (x122 * x119), ())) else some (none, ()))).bind fun r125 => some (r125.1, r117.2))
@[irreducible] def M_l_domains (a1 : List Int) (a2 : List Str) (a3 : List Int) (a4 : Int) : Option ((List (Str × List Int)) × (List Int)) :=
  (some ([] : List (Str × List Int))).bind fun x129 => (forS a2 ((x129, a1) : (List (Str × List Int)) × (List Int)) fun x135 s134 => (compM a3 (s134.2) (fun x139 s141 => (M_l_next s141 (4 : Int)).bind fun r143 => if (decide ((0 : Int) < (r143.1))) = true then some (some x139, r143.2) else some (none, r143.2))).bind fun r144 => (some ((cutL (r144.1) none (some a4)) : List Int)).bind fun x145 => (if (decide ((x145.length : Int) = (0 : Int))) = true then (M_l_next (r144.2) (a3.length : Int)).bind fun r151 => (atI a3 (r151.1)).bind fun x152 => (some ([x152] : List Int)).bind fun x153 => some (x153, r151.2) else some (x145, r144.2)).bind fun s148 => (M_l_next (s148.2) (60 : Int)).bind fun r149 => grd ((sm ((s148.1).length : Int) || sm (if (!decide ((r149.1) = (7 : Int))) then 1 else 0 : Int)) = true) (grd ((s134.1).length < sizeLine) (some (((s134.1) ++ [(x135, (cutL (s148.1) none (some (((s148.1).length : Int) * (if (!decide ((r149.1) = (7 : Int))) then 1 else 0 : Int)))))]), r149.2)))).bind fun s136 => some (s136.1, s136.2)
@[irreducible] def M_l_part (a1 : List Int) (a2 : List Int) : Option ((List Int) × (List Int)) :=
  (compM a2 a1 (fun x156 s158 => (M_l_next s158 (3 : Int)).bind fun r160 => if (decide ((0 : Int) < (r160.1))) = true then some (some x156, r160.2) else some (none, r160.2))).bind fun r161 => some (r161.1, r161.2)
@[irreducible] def M_l_is_side (a1 : List Int) : Option (Bool) :=
  ((if (!true) = true then some (true, ()) else (compM a1 () (fun x170 s172 => if true = true then (M_l_is_integer x170).bind fun r174 => some (some r174, ()) else some (none, ()))).bind fun r175 => some ((!((r175.1).all id)), ()))).bind fun c176 => if c176.1 = true then some false else grd (rg ((a1.length : Int) - (1 : Int)) = true) ((compM (rngL 0 ((a1.length : Int) - (1 : Int)).toNat) () (fun x179 s182 => if true = true then (atI a1 x179).bind fun x184 => (atI a1 (x179 + (1 : Int))).bind fun x185 => some (some (decide (x184 < x185)), ()) else some (none, ()))).bind fun r186 => some ((r186.1).all id))
@[irreducible] def M_l_same_sides (a1 : List (Str × List Int)) (a2 : List (Str × List Int)) : Option (Bool) :=
  if ((!true) || (!decide ((a1.length : Int) = (a2.length : Int)))) = true then some false else (compM (a2.map Prod.fst) () (fun x189 s195 => ((if (dhas a1 x189) = true then (dget a1 x189).bind fun x199 => (M_l_is_side x199).bind fun r200 => some (r200, ()) else some (false, ()))).bind fun c201 => if c201.1 = true then some (some x189, ()) else some (none, ()))).bind fun r202 => (some (r202.1 : List Str)).bind fun x203 => ((if (decide ((x203.length : Int) = (a2.length : Int))) = true then (compM x203 () (fun x217 s220 => if true = true then (dget a1 x217).bind fun x222 => (dget a2 x217).bind fun x223 => some (some (decide (x222 = x223)), ()) else some (none, ()))).bind fun r224 => some (((r224.1).all id), ()) else some (false, ()))).bind fun c225 => some (c225.1)
@[irreducible] def M_l_listed (a1 : List Int) (a2 : List Str) : Option ((List Str) × (List Int)) :=
  (some (a2 : List Str)).bind fun x226 => (some ([] : List Str)).bind fun x228 => grd (rg (a2.length : Int) = true) ((forS (rngL 0 (a2.length : Int).toNat) ((x226, x228, a1) : (List Str) × (List Str) × (List Int)) fun x234 s233 => (M_l_next (s233.2.2) ((s233.1).length : Int)).bind fun r236 => (some (r236.1 : Int)).bind fun x237 => (M_l_next (r236.2) (4 : Int)).bind fun r239 => (if (decide ((0 : Int) < (r239.1))) = true then (atI (s233.1) x237).bind fun x244 => grd ((s233.2.1).length < sizeLine) (some (((s233.2.1) ++ [x244]), r239.2)) else some (s233.2.1, r239.2)).bind fun s241 => grd ((cutL (s233.1) none (some x237)).length + (cutL (s233.1) (some (x237 + (1 : Int))) none).length ≤ sizeLine) ((some (((cutL (s233.1) none (some x237)) ++ (cutL (s233.1) (some (x237 + (1 : Int))) none)) : List Str)).bind fun x242 => some (x242, s241.1, s241.2))).bind fun s235 => some (s235.2.1, s235.2.2))
@[irreducible] def M_l_drawn_side (a1 : List Int) (a2 : List Int) (a3 : List Int) : Option ((List Int) × (List Int)) :=
  (M_l_next a1 (6 : Int)).bind fun r246 => (some (r246.1 : Int)).bind fun x247 => if (decide (x247 = (0 : Int))) = true then some (a2, r246.2) else if (decide (x247 = (1 : Int))) = true then some ([], r246.2) else (atI a3 (0 : Int)).bind fun x251 => grd (([(x251 - (2 : Int))]).length + a3.length ≤ sizeLine) ((atI a3 (-(1 : Int))).bind fun x252 => grd ((([(x251 - (2 : Int))]) ++ a3).length + ([(x252 + (2 : Int))]).length ≤ sizeLine) ((some (((([(x251 - (2 : Int))]) ++ a3) ++ ([(x252 + (2 : Int))])) : List Int)).bind fun x253 => if (decide (x247 = (2 : Int))) = true then (compM x253 (r246.2) (fun x257 s261 => ((if (decide (x257 ∈ a2)) = true then some (true, s261) else (M_l_next s261 (2 : Int)).bind fun r264 => some ((decide ((r264.1) = (0 : Int))), r264.2))).bind fun c265 => if c265.1 = true then some (some x257, c265.2) else some (none, c265.2))).bind fun r266 => some (r266.1, r266.2) else (compM x253 (r246.2) (fun x268 s270 => (M_l_next s270 (2 : Int)).bind fun r272 => if (decide ((r272.1) = (0 : Int))) = true then some (some x268, r272.2) else some (none, r272.2))).bind fun r273 => some (r273.1, r273.2)))
@[irreducible] def M_l_full (a1 : List (Str × List Int)) (a2 : List (Str × List Int)) : Option (List (Str × List Int)) :=
  (some (([] : List (Str × List Int)) : List (Str × List Int))).bind fun x274 => (forS a2 (x274 : (List (Str × List Int))) fun x280 s279 => grd (s279.length < sizeLine) ((if (dhas a1 (x280.1)) = true then (compM (x280.2) () (fun x287 s289 => (dget a1 (x280.1)).bind fun x291 => if (decide (x287 ∈ x291)) = true then some (some x287, ()) else some (none, ()))).bind fun r292 => grd ((dput s279 (x280.1) (x280.2)).length < sizeLine) (some (dput (dput s279 (x280.1) (x280.2)) (x280.1) (r292.1))) else some (dput s279 (x280.1) (x280.2))).bind fun s285 => some s285)).bind fun s281 => some s281
@[irreducible] def M_l_slim (a1 : List (Str × List Int)) (a2 : List (Str × List Int)) : Option (List (Str × List Int)) :=
  (some (([] : List (Str × List Int)) : List (Str × List Int))).bind fun x294 => (forS a2 (x294 : (List (Str × List Int))) fun x300 s299 => (dget a1 (x300.1)).bind fun x303 => (if (decide ((x303.length : Int) < ((x300.2).length : Int))) = true then (dget a1 (x300.1)).bind fun x306 => grd (s299.length < sizeLine) (some (dput s299 (x300.1) x306)) else some s299).bind fun s305 => some s305).bind fun s301 => some s301
@[irreducible] def M_l_copied (a1 : List (Str × List Int)) : Option (List (Str × List Int)) :=
  (some (([] : List (Str × List Int)) : List (Str × List Int))).bind fun x308 => (forS (a1.map Prod.fst) (x308 : (List (Str × List Int))) fun x314 s313 => (dget a1 x314).bind fun x317 => grd (s313.length < sizeLine) (some (dput s313 x314 x317))).bind fun s315 => some s315
@[irreducible] def M_l_new (a1 : List (Str × List Int)) (a2 : List (Str × List Int)) : Option (Bool × (List (Str × List Int))) :=
  (forS (a2.map Prod.fst) (a1 : (List (Str × List Int))) fun x321 s320 => (dget s320 x321).bind fun x330 => grd (x330.length < sizeLine) (some (dput s320 x321 (x330 ++ [((10 : Int) ^ (13 : Int).toNat)])))).bind fun s322 => (forL (a2.map Prod.fst) (() : Unit) fun x325 s324 => (dget s322 x325).bind fun x327 => (dget a2 x325).bind fun x328 => grd (x328.length + ([((10 : Int) ^ (13 : Int).toNat)]).length ≤ sizeLine) (if (!decide (x327 = (x328 ++ ([((10 : Int) ^ (13 : Int).toNat)])))) = true then inB (some (Tm.rt (false, s322))) else some (Bo.nx ()))).bind (boK (fun s326 => some (true, s322)) id)
@[irreducible] def M_l_formed (a1 : List (Str × List Int)) (a2 : List (Str × List Int)) : Option (Bool) :=
  (M_l_full a1 a2).bind fun r332 => (some (r332 : List (Str × List Int))).bind fun x333 => (M_l_slim x333 a2).bind fun r335 => (some (r335 : List (Str × List Int))).bind fun x336 => (M_l_copied a1).bind fun r338 => (some (r338 : List (Str × List Int))).bind fun x339 => (some (((a2.filter fun x342 => true).map fun x342 => (x342.1, x342.2)) : List (Str × List Int))).bind fun x343 => grd (rg (2 : Int) = true) ((forL (rngL 0 (2 : Int).toNat) (() : Unit) fun x349 s348 => ((M_filled x339 x343).bind okx).bind fun r351 => (some (r351 : List (Str × List Int))).bind fun x352 => ((M_trimmed x339 x343).bind okx).bind fun r356 => (some (r356 : List (Str × List Int))).bind fun x357 => (M_l_same_sides x352 x333).bind fun r361 => ((if (!r361) = true then some (true, ()) else (M_l_same_sides x357 x336).bind fun r363 => some ((!r363), ()))).bind fun c364 => if c364.1 = true then inB (some (Tm.rt false)) else ((M_filled x357 x343).bind okx).bind fun r367 => ((M_filled x352 x343).bind okx).bind fun r369 => (some (((), r367, r369) : (Unit × List (Str × List Int) × List (Str × List Int)))).bind fun x371 => ((M_trimmed x352 x343).bind okx).bind fun r376 => ((M_trimmed x357 x343).bind okx).bind fun r378 => (some (((), r376, r378) : (Unit × List (Str × List Int) × List (Str × List Int)))).bind fun x380 => grd (rg (3 : Int) = true) ((forL (rngL 0 (3 : Int).toNat) (() : Unit) fun x386 s385 => (atI ([x352, x371.2.1, x371.2.2]) x386).bind fun x406 => (M_l_same_sides x406 x333).bind fun r407 => ((if (!r407) = true then some (true, ()) else (atI ([x357, x380.2.1, x380.2.2]) x386).bind fun x410 => (M_l_same_sides x410 x336).bind fun r411 => some ((!r411), ()))).bind fun c412 => if c412.1 = true then inB (some (Tm.rt false)) else some (Bo.nx ())).bind (boK (fun s387 => grd (rg (3 : Int) = true) ((forL (rngL 0 (3 : Int).toNat) (([x357, x380.2.1, x380.2.2], [x352, x371.2.1, x371.2.2]) : (List (List (Str × List Int))) × (List (List (Str × List Int)))) fun x390 s389 => (ixN (s389.2).length x390).bind fun m395 => ((s389.2)[m395]?).bind fun x396 => (M_l_new x396 x333).bind fun r397 => ((if (!(r397.1)) = true then some (true, s389.1) else (ixN (s389.1).length x390).bind fun m401 => ((s389.1)[m401]?).bind fun x402 => (M_l_new x402 x336).bind fun r403 => some ((!(r403.1)), ((s389.1).set m401 (r403.2))))).bind fun c404 => if c404.1 = true then inB (some (Tm.rt false)) else some (Bo.nx (c404.2, ((s389.2).set m395 (r397.2))))).bind (boK (fun s391 => ((if (!deq x339 a1) = true then some (true, ()) else grd (okG (dgL dgStr) (x339.map Prod.fst) (a1.map Prod.fst) = true) (((if (!decide ((x339.map Prod.fst) = (a1.map Prod.fst))) = true then some (true, ()) else grd (okG (dgL (dgT2 dgStr (dgL dgInt))) x343 a2 = true) (some ((!decide (x343 = a2)), ())))).bind fun c392 => some (c392.1, ())))).bind fun c393 => if c393.1 = true then inB (some (Tm.rt false)) else some (Bo.nx ())) (fun r => Bo.tm (Tm.rt r))))) (fun r => Bo.tm (Tm.rt r))))).bind (boK (fun s350 => some true) id))
@[irreducible] def M_l_told_name (a1 : Bool) (a2 : List (Str × List Int)) (a3 : List (Str × List Int)) : Option (Option Str) :=
  ((if a1 = true then (M_trimmed a2 a3).bind (xK (fun e => Bo.tm ((Except.error) e)) fun r417 => some (Bo.nx ())) else (M_filled a2 a3).bind (xK (fun e => Bo.tm ((Except.error) e)) fun r419 => some (Bo.nx ()))).bind (boK (fun s416 => some (Bo.nx ())) Bo.tm)).bind (tryK (fun s414 => some (none : Option Str)) id (fun e => subC e.cn "UnknownName") (fun e421 => (some (((["RepeatedName", "UnknownValue", "RepeatedValue", "UnknownKey", "RepeatedKey", "EmptyRule", "BadRow", "BadBounds", "BadNumber", "BadStep", "NoMark", "NotStruck", "BadOrder", "NotBare", "NoClash", "HoldsAnswer", "BadLine", "UnknownLine", "BadText", "NothingToUndo", "NothingToRedo", "UnknownStep", "BadDeed"] : List Str).any (subC e421.cn)) : Bool)).bind fun x422 => if (x422 || ((!(subC e421.cn "DeskError")) || (!(subC e421.cn "ValueError")))) = true then inB (some (none : Option Str)) else inB ((erF e421 "name").bind fun y425 => (FV.str? y425).bind fun z426 => some (some z426))) (fun _ => none))
@[irreducible] def M_l_refused (a1 : List Int) (a2 : List (Str × List Int)) (a3 : List (Str × List Int)) (a4 : List Str) (a5 : List Int) : Option (Bool × (List Int)) :=
  (some ((a2.map Prod.fst) : List Str)).bind fun x427 => (M_l_next a1 (2 : Int)).bind fun r429 => (forS (cutL a4 none (some ((1 : Int) + (r429.1)))) ((x427, r429.2) : (List Str) × (List Int)) fun x432 s431 => (M_l_next (s431.2) (((s431.1).length : Int) + (1 : Int))).bind fun r476 => (some (r476.1 : Int)).bind fun x477 => grd ((cutL (s431.1) none (some x477)).length + ([x432]).length ≤ sizeLine) (grd (((cutL (s431.1) none (some x477)) ++ ([x432])).length + (cutL (s431.1) (some x477) none).length ≤ sizeLine) ((some ((((cutL (s431.1) none (some x477)) ++ ([x432])) ++ (cutL (s431.1) (some x477) none)) : List Str)).bind fun x479 => some (x479, r476.2)))).bind fun s433 => (some (([] : List (Str × List Int)) : List (Str × List Int))).bind fun x434 => (forS (s433.1) ((x434, s433.2) : (List (Str × List Int)) × (List Int)) fun x440 s439 => (if (dhas a2 x440) = true then (dget a2 x440).bind fun x472 => grd ((s439.1).length < sizeLine) (some ((dput (s439.1) x440 x472), s439.2)) else (M_l_part (s439.2) a5).bind fun r474 => grd ((s439.1).length < sizeLine) (some ((dput (s439.1) x440 (r474.1)), r474.2))).bind fun s471 => some (s471.1, s471.2)).bind fun s441 => (some ((((s433.1).filter fun x443 => (decide (x443 ∈ a4))).map fun x443 => x443) : List Str)).bind fun x444 => (M_l_copied (s441.1)).bind fun r448 => (some (r448 : List (Str × List Int))).bind fun x449 => (some (((a3.filter fun x452 => true).map fun x452 => (x452.1, x452.2)) : List (Str × List Int))).bind fun x453 => (forL ([false, true]) (() : Unit) fun x459 s458 => (M_l_told_name x459 x449 x453).bind fun r463 => (some (r463 : Option Str)).bind fun x464 => ((if (!(oSel x464 false true)) = true then some (true, ()) else (atI x444 (0 : Int)).bind fun x467 => some ((!decide (x464 = (some x467))), ()))).bind fun c468 => if c468.1 = true then inB (some (Tm.rt (false, s441.2))) else some (Bo.nx ())).bind (boK (fun s460 => ((if (deq x449 (s441.1)) = true then grd (okG (dgL dgStr) (x449.map Prod.fst) (s433.1) = true) (((if (decide ((x449.map Prod.fst) = (s433.1))) = true then grd (okG (dgL (dgT2 dgStr (dgL dgInt))) x453 a3 = true) (some ((decide (x453 = a3)), ())) else some (false, ()))).bind fun c461 => some (c461.1, ())) else some (false, ()))).bind fun c462 => some (c462.1, s441.2)) id)
@[irreducible] def M_law (a1 : List Int) : Option (Bool) :=
  (M_l_stream a1 (0 : Int)).bind fun r481 => (some (r481 : List Int)).bind fun x482 => (M_l_next x482 (4 : Int)).bind fun r486 => (M_l_pool (r486.2) ((2 : Int) + (r486.1))).bind fun r487 => (some (r487.1 : List Int)).bind fun x488 => (M_l_next (r487.2) (7 : Int)).bind fun r490 => (some (r490.1 : Int)).bind fun x491 => (M_l_names (r490.2) (x491 + (2 : Int))).bind fun r493 => (some (r493.1 : List Str)).bind fun x494 => (M_l_domains (r493.2) (cutL x494 none (some x491)) x488 (4 : Int)).bind fun r496 => (some (r496.1 : List (Str × List Int))).bind fun x497 => ((if (decide ((0 : Int) < x491)) = true then (M_l_next (r496.2) (5 : Int)).bind fun r502 => some ((decide ((r502.1) = (0 : Int))), r502.2) else some (false, r496.2))).bind fun c503 => (if c503.1 = true then (M_l_next (c503.2) x491).bind fun r530 => (some (r530.1 : Int)).bind fun x531 => (atI x497 x531).bind fun x533 => (ixN x497.length x531).bind fun (_ : Nat) => some ((x497.set ((ixN x497.length x531).getD 0) (x533.1, [])), r530.2) else some (x497, c503.2)).bind fun s505 => (M_l_stream a1 (1 : Int)).bind fun r506 => (some (r506 : List Int)).bind fun x507 => (some (([] : List (Str × List Int)) : List (Str × List Int))).bind fun x512 => (M_l_listed x507 (cutL x494 none (some x491))).bind fun r516 => (forS (r516.1) ((x512, r516.2) : (List (Str × List Int)) × (List Int)) fun x519 s518 => (idx? x519 x494).bind fun n526 => (atI (s505.1) (n526 : Int)).bind fun x527 => (M_l_drawn_side (s518.2) (x527.2) x488).bind fun r528 => grd ((s518.1).length < sizeLine) (some ((dput (s518.1) x519 (r528.1)), r528.2))).bind fun s520 => (M_l_formed (s520.1) (s505.1)).bind fun r521 => if (!r521) = true then some false else (M_l_next (s520.2) (3 : Int)).bind fun r523 => if (decide ((0 : Int) < (r523.1))) = true then some true else (M_l_refused (r523.2) (s520.1) (s505.1) (cutL x494 (some x491) none) x488).bind fun r525 => some (r525.1)
end My
end
section
set_option maxHeartbeats 4000000
set_option synthInstance.maxSize 2000
namespace My
open PySem PySem.Spec PyProof.Rows L2 L3
abbrev FnP (K : PySem.W.Frag) (x : Str) (st : Stmt) (f : Addr) (fd : FuncData) : Prop := FunD K x x (defArgs st) (defBody st) (defScope st) [] [] f fd
structure Ev (P : Program) (K : PySem.W.Frag) (mg : Str → Option Value) : Prop where
  xs : XsT P K mg rsL csL
  f_common : ∃ (f : Addr) (fd : FuncData), FnP K "common" (top 27) f fd ∧ mg "common" = some (.ref f)
  f_filled : ∃ (f : Addr) (fd : FuncData), FnP K "filled" (top 29) f fd ∧ mg "filled" = some (.ref f)
  f_trimmed : ∃ (f : Addr) (fd : FuncData), FnP K "trimmed" (top 30) f fd ∧ mg "trimmed" = some (.ref f)
  f_l_is_integer : ∃ (f : Addr) (fd : FuncData), FnP K "_law_is_integer" (top 32) f fd ∧ mg "_law_is_integer" = some (.ref f)
  f_l_stream : ∃ (f : Addr) (fd : FuncData), FnP K "_law_stream" (top 33) f fd ∧ mg "_law_stream" = some (.ref f)
  f_l_next : ∃ (f : Addr) (fd : FuncData), FnP K "_law_next" (top 34) f fd ∧ mg "_law_next" = some (.ref f)
  f_l_names : ∃ (f : Addr) (fd : FuncData), FnP K "_law_names" (top 35) f fd ∧ mg "_law_names" = some (.ref f)
  f_l_pool : ∃ (f : Addr) (fd : FuncData), FnP K "_law_pool" (top 36) f fd ∧ mg "_law_pool" = some (.ref f)
  f_l_domains : ∃ (f : Addr) (fd : FuncData), FnP K "_law_domains" (top 37) f fd ∧ mg "_law_domains" = some (.ref f)
  f_l_part : ∃ (f : Addr) (fd : FuncData), FnP K "_law_part" (top 38) f fd ∧ mg "_law_part" = some (.ref f)
  f_l_is_side : ∃ (f : Addr) (fd : FuncData), FnP K "_law_is_side" (top 39) f fd ∧ mg "_law_is_side" = some (.ref f)
  f_l_same_sides : ∃ (f : Addr) (fd : FuncData), FnP K "_law_same_sides" (top 40) f fd ∧ mg "_law_same_sides" = some (.ref f)
  f_l_listed : ∃ (f : Addr) (fd : FuncData), FnP K "_law_listed" (top 41) f fd ∧ mg "_law_listed" = some (.ref f)
  f_l_drawn_side : ∃ (f : Addr) (fd : FuncData), FnP K "_law_drawn_side" (top 42) f fd ∧ mg "_law_drawn_side" = some (.ref f)
  f_l_full : ∃ (f : Addr) (fd : FuncData), FnP K "_law_full" (top 43) f fd ∧ mg "_law_full" = some (.ref f)
  f_l_slim : ∃ (f : Addr) (fd : FuncData), FnP K "_law_slim" (top 44) f fd ∧ mg "_law_slim" = some (.ref f)
  f_l_copied : ∃ (f : Addr) (fd : FuncData), FnP K "_law_copied" (top 45) f fd ∧ mg "_law_copied" = some (.ref f)
  f_l_new : ∃ (f : Addr) (fd : FuncData), FnP K "_law_new" (top 46) f fd ∧ mg "_law_new" = some (.ref f)
  f_l_formed : ∃ (f : Addr) (fd : FuncData), FnP K "_law_formed" (top 47) f fd ∧ mg "_law_formed" = some (.ref f)
  f_l_told_name : ∃ (f : Addr) (fd : FuncData), FnP K "_law_told_name" (top 48) f fd ∧ mg "_law_told_name" = some (.ref f)
  f_l_refused : ∃ (f : Addr) (fd : FuncData), FnP K "_law_refused" (top 49) f fd ∧ mg "_law_refused" = some (.ref f)
  m_ValueError : mg "ValueError" = none
  m_all : mg "all" = none
  m_bool : mg "bool" = none
  m_dict : mg "dict" = none
  m_int : mg "int" = none
  m_isinstance : mg "isinstance" = none
  m_len : mg "len" = none
  m_list : mg "list" = none
  m_range : mg "range" = none
  m_str : mg "str" = none
  m_super : mg "super" = none
end My
end
section
set_option maxHeartbeats 4000000
set_option synthInstance.maxSize 2000
namespace My
open PySem PySem.Spec PyProof.Rows L2 L3
section
variable {P : Program} {w : World} {K : PySem.W.Frag} {mg : Str → Option Value} {base : Heap}
theorem sc_common : FnScope ["first", "second", "value"] ["first", "second"] (defScope (top 27)) := ⟨rfl, rfl, rfl, by decide +kernel, rfl, by decide +kernel, by decide +kernel⟩
theorem ok_common {f : Addr} {fd : FuncData} (C : Ev P K mg) (FD : FnP K "common" (top 27) f fd)   : FnOk P w K mg base CX0 1 f fd ["first", "second"] (Sp_FF_o (pL pInt) (pL pInt) M_common (oL pInt)) := by
  refine fn_FF_o FD sc_common rfl fun cdv A outer s H E hr  a1 a2 => ?_
  exact s_is (s_T (T := some ((a1.filter fun x2 => (decide (x2 ∈ a2))).map fun x2 => x2)) (s_retO (P := (fun _ => [])) (Ro := (oL pInt)) (ι := id) (rv := fun (b : Unit) => ((a1.filter fun x2 => (decide (x2 ∈ a2))).map fun x2 => x2)) (fun _ _ _ h => h) (x_lcT (own := [("value", 2)]) sc_common.nd (i_list (x_var (p := (pL pInt) a1) 0)) (blkOk_by (own := [("value", 2)]) (N := ["first", "second", "value"]) (sc := (defScope (top 27))) (by decide +kernel)) (fun _ _ _ _ _ => pg_name (i := 2) sc_common.nd rfl (by first | exact .inl rfl | exact .inr rfl)) (tw_name 2) (fun _ _ _ _ _ _ b1 x2 _ _ => pts_one (t_tot ((), ()) (fun _ => rfl) (t_kd (c := fun (b_ : (Unit × Unit)) => (decide (x2 ∈ a2))) (t_inL flInt (y_var (p := pInt x2) 2) (fun _ => y_var (p := (pL pInt) a2) 1) (fun _ _ => rdF))))) (fun _ _ _ _ _ _ b1 x2 _ _ => (y_var (p := pInt x2) 2))) (fun _ => List.Sublist.refl _))) (by unfold M_common; rfl)
end
end My
end
section
set_option maxHeartbeats 4000000
set_option synthInstance.maxSize 2000
namespace My
open PySem PySem.Spec PyProof.Rows L2 L3
section
variable {P : Program} {w : World} {K : PySem.W.Frag} {mg : Str → Option Value} {base : Heap}
theorem sc_filled : FnScope ["box", "domains", "sides", "name", "result", "side"] ["box", "domains"] (defScope (top 29)) := ⟨rfl, rfl, rfl, by decide +kernel, rfl, by decide +kernel, by decide +kernel⟩
theorem ok_filled {f : Addr} {fd : FuncData} (C : Ev P K mg) (FD : FnP K "filled" (top 29) f fd)   : FnOk P w K mg base (L2.CX P w) 2 f fd ["box", "domains"] (SpXo (fun (a : (List (Str × List Int)) × (List (Str × List Int))) => ([(pM (κ := Str) (pL pInt)) a.1, (pL (pT2 pStr (pL pInt))) a.2] : List Pd)) (fun (a : (List (Str × List Int)) × (List (Str × List Int))) => M_filled a.1 a.2) (oMO (κ := Str) (oL pInt)) (erX mg rsL)) := by
  obtain ⟨fI_UnknownName, tx_UnknownName⟩ := (C.xs.x "UnknownName" (by decide +kernel)).tx
  have m_list := C.m_list
  obtain ⟨f_common, fd_common, F_common, g_common⟩ := C.f_common
  have k_common := ok_common (P := P) (w := w) (base := base) C F_common
  have b_common : Binds K fd_common ["first", "second"] [] := F_common.bindsN fun _ _ _ _ _ _ us hl => match us, hl with | [_, _], _ => rfl
  refine fn_Xo (A := (fun (a : (List (Str × List Int)) × (List (Str × List Int))) => ([(pM (κ := Str) (pL pInt)) a.1, (pL (pT2 pStr (pL pInt))) a.2] : List Pd))) (Mf := (fun (a : (List (Str × List Int)) × (List (Str × List Int))) => M_filled a.1 a.2)) FD sc_filled (fun _ => rfl) rfl fun cdv A outer s H E hr ⟨a1, a2⟩ tk => ?_
  exact s_is (s_T (T := (dcM a2 ([] : List (Str × List Int)) (fun x4 => some (x4.1, x4.2))).bind fun r7 => (some (r7 : List (Str × List Int))).bind fun x8 => (forL (a1.map Prod.fst) (() : Unit) fun x14 s13 => if (!dhas x8 x14) = true then inB (some ((fun e => Tm.rt ((Except.error) e)) (⟨"UnknownName", [.str x14]⟩ : Er))) else some (Bo.nx ())).bind (boK (fun s15 => (some (([] : List (Str × List Int)) : List (Str × List Int))).bind fun x16 => (forS (x8.map Prod.fst) (x16 : (List (Str × List Int))) fun x22 s21 => (if (dhas a1 x22) = true then (dget a1 x22).bind fun x27 => (dget x8 x22).bind fun x28 => (M_common x27 x28).bind fun r29 => grd (s21.length < sizeLine) (some (dput s21 x22 r29)) else (dget x8 x22).bind fun x32 => grd (s21.length < sizeLine) (some (dput s21 x22 x32))).bind fun s26 => some s26).bind fun s23 => some (Except.ok (ε := Er) s23)) id)) (s_letOA (i := 2) (oM (κ := Str) (pL pInt)) (a_M (a_dc (i := 2) (own := [("name", 3), ("side", 5)]) (κ := Str) (δ := (List Int)) (D := (oF (pL pInt))) (Ex := (pT2 pStr (pL pInt))) (f := fun (b_ : Unit) (x_ : (Str × List Int)) => some (x_.1, x_.2)) (T2 := fun (b_ : Unit) (x_ : (Str × List Int)) (c_ : Unit) => some (x_.1, x_.2)) (ky := fun (b_ : Unit) (x_ : (Str × List Int)) (c_ : Unit) => x_.1) (y := fun (b_ : Unit) (x_ : (Str × List Int)) (c_ : Unit) (d_ : Unit) => x_.2) sc_filled.nd (i_list (x_var (p := (pL (pT2 pStr (pL pInt))) a2) 1)) (blkOk_by (own := [("name", 3), ("side", 5)]) (N := ["box", "domains", "sides", "name", "result", "side"]) (sc := (defScope (top 29))) (by decide +kernel)) (fun _ _ _ _ _ => pg_tup rfl (pgs_cons (pg_name (i := 3) sc_filled.nd rfl (by first | exact .inl rfl | exact .inr rfl)) (pgs_cons (pg_name (i := 5) sc_filled.nd rfl (by first | exact .inl rfl | exact .inr rfl)) pgs_nil))) (tw_pair 3 5 (by decide)) (by exact fun q5 _ _ _ _ _ b3 x4 => x_T (x_var (p := pStr x4.1) 3) (by rfl)) (by exact fun q5 _ _ _ _ _ b3 x4 b6 => o_T (o_ofE (E := (pL pInt)) (x_var (p := (pL pInt) x4.2) 5)) (by rfl)) (sw_trueD rfl rfl rfl (by decide +kernel)))) fun (b9 : (Unit × (List (Str × List Int)))) x8 v11 => s_frz (i := 2) (c := ⟨v11, (oM (κ := Str) (pL pInt)) x8, none⟩) 0 (s_T (T := (forL (a1.map Prod.fst) (() : Unit) fun x14 s13 => if (!dhas x8 x14) = true then inB (some ((fun e => Tm.rt ((Except.error) e)) (⟨"UnknownName", [.str x14]⟩ : Er))) else some (Bo.nx ())).bind (boK (fun s15 => (some (([] : List (Str × List Int)) : List (Str × List Int))).bind fun x16 => (forS (x8.map Prod.fst) (x16 : (List (Str × List Int))) fun x22 s21 => (if (dhas a1 x22) = true then (dget a1 x22).bind fun x27 => (dget x8 x22).bind fun x28 => (M_common x27 x28).bind fun r29 => grd (s21.length < sizeLine) (some (dput s21 x22 r29)) else (dget x8 x22).bind fun x32 => grd (s21.length < sizeLine) (some (dput s21 x22 x32))).bind fun s26 => some s26).bind fun s23 => some (Except.ok (ε := Er) s23)) id)) (s_forX (passes_of rfl) (fun (b_ : Unit) (s_ : Unit) => ([some ((pM (κ := Str) (pL pInt)) a1), some ((pL (pT2 pStr (pL pInt))) a2), some ((pM (κ := Str) (pL pInt)) x8), none, none, none], [])) (fun (b_ : Unit) => ()) (ι := id) (Tf := (fX (erX mg rsL) (fF (RO ⟨H, []⟩ (fun _ => []) (oMO (κ := Str) (oL pInt)))) ⟨H, []⟩ [] (fun _ _ => True) (wE E))) (i_mkeys (κ := Str) (x_var (p := (pM (κ := Str) (pL pInt)) a1) 0)) (pg_name (i := 3) sc_filled.nd rfl (by first | exact .inl rfl | exact .inr rfl)) (tg_name 3) (fun _ => by exact ⟨rfl, rfl, rfl, trivial⟩) (fun _ => List.Sublist.refl _) (fun b12 x14 s13 => s_T (T := if (!dhas x8 x14) = true then inB (some ((fun e => Tm.rt ((Except.error) e)) (⟨"UnknownName", [.str x14]⟩ : Er))) else some (Bo.nx ())) (s_ifB (ins_Tg (insT_X (insT_F _))) (t_kd (c := fun (b_ : (Unit × Unit)) => (!dhas x8 x14)) (t_dnin (κ := Str) (Ee := (pL pInt)) hr.units (x_var (p := pStr x14) 3) (fun _ => x_var (p := (pM (κ := Str) (pL pInt)) x8) 2) (fun _ _ => rdMF))) (fun (b35 : (Unit × Unit)) => s_T (T := some ((fun e => Tm.rt ((Except.error) e)) (⟨"UnknownName", [.str x14]⟩ : Er))) (s_raise (er := fun (b : (Unit × Unit)) => (⟨"UnknownName", [.str x14]⟩ : Er)) tk (ex_T ex_X) tx_UnknownName (C.xs.x "UnknownName" (by decide +kernel)).g C.xs.sup hr (a_cons (x_var (p := pStr x14) 3) (fun _ => a_nil)) (fun _ _ _ _ h => ⟨(show ("UnknownName" : Str) ∈ rsL from by decide +kernel), h⟩) (fun _ => (by decide +kernel : 1 = (fieldsOf "UnknownName").length)) (by decide +kernel) (fun _ => (List.nil_sublist _)) (fun _ _ _ => trivial))) fun (b35 : (Unit × Unit)) => s_endB () ⟨rfl, rfl, rfl, trivial⟩ (List.Sublist.refl _))) (fun b12 s15 => s_T (T := (some (([] : List (Str × List Int)) : List (Str × List Int))).bind fun x16 => (forS (x8.map Prod.fst) (x16 : (List (Str × List Int))) fun x22 s21 => (if (dhas a1 x22) = true then (dget a1 x22).bind fun x27 => (dget x8 x22).bind fun x28 => (M_common x27 x28).bind fun r29 => grd (s21.length < sizeLine) (some (dput s21 x22 r29)) else (dget x8 x22).bind fun x32 => grd (s21.length < sizeLine) (some (dput s21 x22 x32))).bind fun s26 => some s26).bind fun s23 => some (Except.ok (ε := Er) s23)) (s_letO (i := 4) (oMO (κ := Str) (oL pInt)) sc_filled.nd (o_kd (E := fun (b_ : Unit) => (oMO (κ := Str) (oL pInt)) ([] : List (Str × List Int))) (x_dict0O (κ := Str) (oL pInt))) fun (b17 : Unit) x16 v19 => s_T (T := (forS (x8.map Prod.fst) (x16 : (List (Str × List Int))) fun x22 s21 => (if (dhas a1 x22) = true then (dget a1 x22).bind fun x27 => (dget x8 x22).bind fun x28 => (M_common x27 x28).bind fun r29 => grd (s21.length < sizeLine) (some (dput s21 x22 r29)) else (dget x8 x22).bind fun x32 => grd (s21.length < sizeLine) (some (dput s21 x22 x32))).bind fun s26 => some s26).bind fun s23 => some (Except.ok (ε := Er) s23)) (s_forS (passes_of rfl) (fun (b_ : Unit) (s_ : (List (Str × List Int))) => ([some ((pM (κ := Str) (pL pInt)) a1), some ((pL (pT2 pStr (pL pInt))) a2), some ((pM (κ := Str) (pL pInt)) x8), none, some (pV v19), none], [⟨v19, (oMO (κ := Str) (oL pInt)) s_, none⟩])) (fun (b_ : Unit) => x16) (i_mkeys (κ := Str) (x_var (p := (pM (κ := Str) (pL pInt)) x8) 2)) (pg_name (i := 3) sc_filled.nd rfl (by first | exact .inl rfl | exact .inr rfl)) (tg_name 3) (fun _ => ⟨rfl, rfl, rfl, rfl, trivial⟩) (fun _ => List.Sublist.refl _) (fun b20 x22 s21 => s_T (T := (if (dhas a1 x22) = true then (dget a1 x22).bind fun x27 => (dget x8 x22).bind fun x28 => (M_common x27 x28).bind fun r29 => grd (s21.length < sizeLine) (some (dput s21 x22 r29)) else (dget x8 x22).bind fun x32 => grd (s21.length < sizeLine) (some (dput s21 x22 x32))).bind fun s26 => some s26) (s_ifN (C := fun s_ : (List (Str × List Int)) => ([some ((pM (κ := Str) (pL pInt)) a1), some ((pL (pT2 pStr (pL pInt))) a2), some ((pM (κ := Str) (pL pInt)) x8), some (pStr x22), some (pV v19), none], [⟨v19, (oMO (κ := Str) (oL pInt)) s_, none⟩])) (t_kd (c := fun (b_ : (Unit × Unit)) => (dhas a1 x22)) (t_din (κ := Str) (Ee := (pL pInt)) hr.units (x_var (p := pStr x22) 3) (fun _ => x_var (p := (pM (κ := Str) (pL pInt)) a1) 0) (fun _ _ => rdMF))) (fun (b25 : (Unit × Unit)) => s_T (T := (dget a1 x22).bind fun x27 => (dget x8 x22).bind fun x28 => (M_common x27 x28).bind fun r29 => grd (s21.length < sizeLine) (some (dput s21 x22 r29))) (s_putFO (κ := Str) (D := (oL pInt)) 0 hr.units (o_kd (E := fun (b_ : ((((Unit × Unit) × (List Int)) × ((Unit × Unit) × (List Int))) × (List Int))) => (oL pInt) b_.2) (x_FF_o (kk := 1) (E1 := (pL pInt)) (E2 := (pL pInt)) k_common (hr.mono (by decide)) g_common F_common.kp b_common (x_kd (E := fun (b_ : ((Unit × Unit) × (List Int))) => (pL pInt) b_.2) (x_dget (κ := Str) (Ee := (pL pInt)) hr.units (x_var (p := (pM (κ := Str) (pL pInt)) a1) 0) (fun _ => x_var (p := pStr x22) 3) (fun _ _ => rdMF))) (fun _ => x_kd (E := fun (b_ : ((Unit × Unit) × (List Int))) => (pL pInt) b_.2) (x_dget (κ := Str) (Ee := (pL pInt)) hr.units (x_var (p := (pM (κ := Str) (pL pInt)) x8) 2) (fun _ => x_var (p := pStr x22) 3) (fun _ _ => rdMF))))) (fun _ vt_ => f_var (D := (oMO (κ := Str) (oL pInt))) (x_var (p := pV v19) 4)) (fun _ _ vt_ => x_var (p := pStr x22) 3) (fun _ => rfl) fun (b31 : ((((((Unit × Unit) × (List Int)) × ((Unit × Unit) × (List Int))) × (List Int)) × Unit) × Unit)) => s_end (dput s21 x22 b31.1.1.2) rfl ⟨rfl, rfl, rfl, rfl, rfl, trivial⟩ (List.Sublist.refl _))) (fun (b25 : (Unit × Unit)) => s_T (T := (dget x8 x22).bind fun x32 => grd (s21.length < sizeLine) (some (dput s21 x22 x32))) (s_putFO (κ := Str) (D := (oL pInt)) 0 hr.units (o_kd (E := fun (b_ : ((Unit × Unit) × (List Int))) => (oL pInt) b_.2) (x_listL (Ee := pInt) m_list (x_kd (E := fun (b_ : ((Unit × Unit) × (List Int))) => (pL pInt) b_.2) (x_dget (κ := Str) (Ee := (pL pInt)) hr.units (x_var (p := (pM (κ := Str) (pL pInt)) x8) 2) (fun _ => x_var (p := pStr x22) 3) (fun _ _ => rdMF))) (fun _ => rdF))) (fun _ vt_ => f_var (D := (oMO (κ := Str) (oL pInt))) (x_var (p := pV v19) 4)) (fun _ _ vt_ => x_var (p := pStr x22) 3) (fun _ => rfl) fun (b34 : ((((Unit × Unit) × (List Int)) × Unit) × Unit)) => s_end (dput s21 x22 b34.1.1.2) rfl ⟨rfl, rfl, rfl, rfl, rfl, trivial⟩ (List.Sublist.refl _))) fun (b25 : (Unit × Unit)) s26 => s_end s26 rfl ⟨rfl, rfl, rfl, rfl, trivial⟩ (List.Sublist.refl _))) fun b20 s23 => s_T (T := some (Except.ok (ε := Er) s23)) (s_retV 0 (P := (fun _ => [])) (Ro := (oMO (κ := Str) (oL pInt))) (ι := (Except.ok (ε := Er))) (rv := fun _ => s23) (fun _ _ _ h => h) (x_var (p := pV v19) 4) (fun _ => rfl) (fun _ => List.Sublist.refl _))))) (fun _ _ _ h => h) (insT_X (insT_F _)))))) (by unfold M_filled; rfl)
end
end My
end
section
set_option maxHeartbeats 4000000
set_option synthInstance.maxSize 2000
namespace My
open PySem PySem.Spec PyProof.Rows L2 L3
section
variable {P : Program} {w : World} {K : PySem.W.Frag} {mg : Str → Option Value} {base : Heap}
theorem sc_trimmed : FnScope ["box", "domains", "full", "name", "side"] ["box", "domains"] (defScope (top 30)) := ⟨rfl, rfl, rfl, by decide +kernel, rfl, by decide +kernel, by decide +kernel⟩
theorem ok_trimmed {f : Addr} {fd : FuncData} (C : Ev P K mg) (FD : FnP K "trimmed" (top 30) f fd)   : FnOk P w K mg base (L2.CX P w) 3 f fd ["box", "domains"] (SpXo (fun (a : (List (Str × List Int)) × (List (Str × List Int))) => ([(pM (κ := Str) (pL pInt)) a.1, (pL (pT2 pStr (pL pInt))) a.2] : List Pd)) (fun (a : (List (Str × List Int)) × (List (Str × List Int))) => M_trimmed a.1 a.2) (oMO (κ := Str) (oL pInt)) (erX mg rsL)) := by
  have m_len := C.m_len
  obtain ⟨f_filled, fd_filled, F_filled, g_filled⟩ := C.f_filled
  have k_filled := ok_filled (P := P) (w := w) (base := base) C F_filled
  have b_filled : Binds K fd_filled ["box", "domains"] [] := F_filled.bindsN fun _ _ _ _ _ _ us hl => match us, hl with | [_, _], _ => rfl
  refine fn_Xo (A := (fun (a : (List (Str × List Int)) × (List (Str × List Int))) => ([(pM (κ := Str) (pL pInt)) a.1, (pL (pT2 pStr (pL pInt))) a.2] : List Pd))) (Mf := (fun (a : (List (Str × List Int)) × (List (Str × List Int))) => M_trimmed a.1 a.2)) FD sc_trimmed (fun _ => rfl) rfl fun cdv A outer s H E hr ⟨a1, a2⟩ tk => ?_
  exact s_is (s_T (T := (M_filled a1 a2).bind (xK (Except.error) fun r36 => (some (r36 : List (Str × List Int))).bind fun x37 => (dcF a2 ([] : List (Str × (Str × (List Int)))) (fun x41 => (dget x37 (x41.1)).bind fun x47 => if (decide ((x47.length : Int) < ((x41.2).length : Int))) = true then (dget x37 (x41.1)).bind fun y45 => some (some (x41.1, (x41.1, y45))) else some none)).bind fun r46 => grd (tkOk x37 r46 = true) (some (Except.ok (ε := Er) (r46.map fun q_ => (q_.1, q_.2.2)))))) (s_letOX (i := 2) (oMO (κ := Str) (oL pInt)) sc_trimmed.nd (x_Xo (kk := 2) (xs := fun (b : (Unit × (Unit × Unit))) => (a1, a2)) k_filled tk (hr.mono (by decide)) g_filled F_filled.kp b_filled (a_cons (x_var (p := (pM (κ := Str) (pL pInt)) a1) 0) (fun _ => a_cons (x_var (p := (pL (pT2 pStr (pL pInt))) a2) 1) (fun _ => a_nil)))) ex_X (List.nil_sublist _) (fun _ _ _ => trivial) fun (b38 : ((Unit × (Unit × Unit)) × (List (Str × List Int)))) x37 v39 => s_T (T := (dcF a2 ([] : List (Str × (Str × (List Int)))) (fun x41 => (dget x37 (x41.1)).bind fun x47 => if (decide ((x47.length : Int) < ((x41.2).length : Int))) = true then (dget x37 (x41.1)).bind fun y45 => some (some (x41.1, (x41.1, y45))) else some none)).bind fun r46 => grd (tkOk x37 r46 = true) (some (Except.ok (ε := Er) (r46.map fun q_ => (q_.1, q_.2.2))))) (s_retO (P := (fun _ => [])) (Ro := (oMO (κ := Str) (oL pInt))) (ι := (Except.ok (ε := Er))) (rv := fun (b : (Unit × (List (Str × (Str × (List Int)))))) => (b.2.map fun q_ => (q_.1, q_.2.2))) (fun _ _ _ h => h) (o_kd (o_kd (E := fun (b_ : (Unit × (List (Str × (Str × (List Int)))))) => (oMO (κ := Str) (oL pInt)) (b_.2.map fun q_ => (q_.1, q_.2.2))) (o_takeG (D := (oL pInt)) (xs := x37) 2 0 (fun kvs_ => x_dcFW (own := [("name", 3), ("side", 4)]) (κ := Str) (δ := Str × (List Int)) (E := pAt kvs_) (Ex := (pT2 pStr (pL pInt))) (f := fun (b_ : Unit) (x_ : (Str × List Int)) => (dget x37 (x_.1)).bind fun x47 => if (decide ((x47.length : Int) < ((x_.2).length : Int))) = true then (dget x37 (x_.1)).bind fun y45 => some (some (x_.1, (x_.1, y45))) else some none) (c := fun (b_ : Unit) (x_ : (Str × List Int)) (c_ : (((Unit × Unit) × (List Int)) × Unit)) => (decide ((c_.1.2.length : Int) < ((x_.2).length : Int)))) (T2 := fun (b_ : Unit) (x_ : (Str × List Int)) (c_ : (((Unit × Unit) × (List Int)) × Unit)) => (dget x37 (x_.1)).bind fun y45 => some (some (x_.1, (x_.1, y45)))) (T3 := fun (b_ : Unit) (x_ : (Str × List Int)) (c_ : (((Unit × Unit) × (List Int)) × Unit)) (d_ : Unit) => (dget x37 (x_.1)).bind fun y45 => some (some (x_.1, (x_.1, y45)))) (ky := fun (b_ : Unit) (x_ : (Str × List Int)) (c_ : (((Unit × Unit) × (List Int)) × Unit)) (d_ : Unit) => x_.1) (y := fun (b_ : Unit) (x_ : (Str × List Int)) (c_ : (((Unit × Unit) × (List Int)) × Unit)) (d_ : Unit) (e_ : ((Unit × Unit) × (List Int))) => (x_.1, e_.2)) sc_trimmed.nd (i_list (x_var (p := (pL (pT2 pStr (pL pInt))) a2) 1)) (blkOk_by (own := [("name", 3), ("side", 4)]) (N := ["box", "domains", "full", "name", "side"]) (sc := (defScope (top 30))) (by decide +kernel)) (fun _ _ _ _ _ => pg_tup rfl (pgs_cons (pg_name (i := 3) sc_trimmed.nd rfl (by first | exact .inl rfl | exact .inr rfl)) (pgs_cons (pg_name (i := 4) sc_trimmed.nd rfl (by first | exact .inl rfl | exact .inr rfl)) pgs_nil))) (tw_pair 3 4 (by decide)) (by exact fun q42 _ _ _ _ _ b40 x41 => t_out (pts_one (t_kd (c := fun (b_ : (((Unit × Unit) × (List Int)) × Unit)) => (decide ((b_.1.2.length : Int) < ((x41.2).length : Int)))) (t_lt (x_kd (E := fun (b_ : ((Unit × Unit) × (List Int))) => pInt (b_.2.length : Int)) (x_lenL (Ee := pInt) m_len (x_kd (E := fun (b_ : ((Unit × Unit) × (List Int))) => (pL pInt) b_.2) (x_dget (κ := Str) (Ee := (pL pInt)) hr.units (x_kd (E := fun (b_ : Unit) => (pM (κ := Str) (pL pInt)) x37) (x_exM (κ := Str) (E := (pL pInt)) (x_var (p := (pEx (pL pInt) kvs_) x37) 2))) (fun _ => x_var (p := pStr x41.1) 3) (fun _ _ => rdMF))) (fun _ => rdF))) (fun _ => x_kd (E := fun (b_ : Unit) => pInt ((x41.2).length : Int)) (x_lenL (Ee := pInt) m_len (x_var (p := (pL pInt) x41.2) 4) (fun _ => rdF))))))) (by exact fun q42 _ _ _ _ _ b40 x41 b43 => x_T (x_var (p := pStr x41.1) 3) (by rfl)) (by exact fun q42 _ _ _ _ _ b40 x41 b43 b44 => x_T (x_ixAt (κ := Str) (E := (pL pInt)) (kvs := kvs_) (xs := x37) hr.units (x_var (p := (pEx (pL pInt) kvs_) x37) 2) (fun _ => x_var (p := pStr x41.1) 3)) (by rfl)))))) (fun _ => List.Sublist.refl _)))) (by unfold M_trimmed; rfl)
end
end My
end
section
set_option maxHeartbeats 4000000
set_option synthInstance.maxSize 2000
namespace My
open PySem PySem.Spec PyProof.Rows L2 L3
section
variable {P : Program} {w : World} {K : PySem.W.Frag} {mg : Str → Option Value} {base : Heap}
theorem sc_l_is_integer : FnScope ["_law_actual"] ["_law_actual"] (defScope (top 32)) := ⟨rfl, rfl, rfl, by decide +kernel, rfl, by decide +kernel, by decide +kernel⟩
theorem ok_l_is_integer {f : Addr} {fd : FuncData} (C : Ev P K mg) (FD : FnP K "_law_is_integer" (top 32) f fd)   : FnOk P w K mg base CX0 1 f fd ["_law_actual"] (Sp_F_f pInt M_l_is_integer pBl) := by
  have m_bool := C.m_bool
  have m_int := C.m_int
  have m_isinstance := C.m_isinstance
  refine fn_F_f FD sc_l_is_integer rfl fun cdv A outer s H E hr  a1 => ?_
  exact s_is (s_T (T := some (true && (!false))) (s_ret (P := (fun _ => [])) (Rp := pBl) (ι := id) (rv := fun (b : Unit) => (true && (!false))) (fun _ _ _ h => h) (x_kd (E := fun (b_ : Unit) => pBl (true && (!false))) (v_and (x_totV (pBl true) () (fun _ => rfl) (by exact (x_kd (E := fun (b_ : Unit) => pBl true) (x_isi (cn := "int") (fun _ => "int") (fun _ => true) m_isinstance m_int (y_var (p := pInt a1) 0) (fun _ => tyInt) (fun _ => by decide +kernel) (by decide +kernel))))) (v_one (x_totV (pBl (!false)) () (fun _ => rfl) (by exact (x_kd (E := fun (b_ : Unit) => pBl (!false)) (x_not (x_kd (E := fun (b_ : Unit) => pBl false) (x_isi (cn := "bool") (fun _ => "int") (fun _ => false) m_isinstance m_bool (y_var (p := pInt a1) 0) (fun _ => tyInt) (fun _ => by decide +kernel) (by decide +kernel)))))))))) (fun _ => List.Sublist.refl _))) (by unfold M_l_is_integer; rfl)
end
end My
end
section
set_option maxHeartbeats 4000000
set_option synthInstance.maxSize 2000
namespace My
open PySem PySem.Spec PyProof.Rows L2 L3
section
variable {P : Program} {w : World} {K : PySem.W.Frag} {mg : Str → Option Value} {base : Heap}
theorem sc_l_stream : FnScope ["_law_script", "_law_k", "_law_cell"] ["_law_script", "_law_k"] (defScope (top 33)) := ⟨rfl, rfl, rfl, by decide +kernel, rfl, by decide +kernel, by decide +kernel⟩
theorem ok_l_stream {f : Addr} {fd : FuncData} (C : Ev P K mg) (FD : FnP K "_law_stream" (top 33) f fd)   : FnOk P w K mg base CX0 1 f fd ["_law_script", "_law_k"] (Sp_FF_o (pS K) pInt M_l_stream (oL pInt)) := by
  have m_int := C.m_int
  have m_len := C.m_len
  refine fn_FF_o FD sc_l_stream rfl fun cdv A outer s H E hr  a1 a2 => ?_
  exact s_is (s_T (T := (some ((0 : Int) : Int)).bind fun x48 => (if (decide (a2 < (a1.length : Int))) = true then (atI a1 a2).bind fun x52 => (some (x52 : Int)).bind fun x53 => some x53 else some x48).bind fun s51 => grd ((sm s51 || sm (if (decide (((10 : Int) ^ (18 : Int).toNat) ≤ s51)) then 1 else 0 : Int)) = true) (some ([(s51 * (if (decide (((10 : Int) ^ (18 : Int).toNat) ≤ s51)) then 1 else 0 : Int)), (0 : Int), s51]))) (s_let (i := 2) pInt sc_l_stream.nd (x_int (i := 0)) fun (b49 : Unit) x48 => s_T (T := (if (decide (a2 < (a1.length : Int))) = true then (atI a1 a2).bind fun x52 => (some (x52 : Int)).bind fun x53 => some x53 else some x48).bind fun s51 => grd ((sm s51 || sm (if (decide (((10 : Int) ^ (18 : Int).toNat) ≤ s51)) then 1 else 0 : Int)) = true) (some ([(s51 * (if (decide (((10 : Int) ^ (18 : Int).toNat) ≤ s51)) then 1 else 0 : Int)), (0 : Int), s51]))) (s_ifN (C := fun s_ : Int => ([some ((pS K) a1), some (pInt a2), some (pInt s_)], [])) (t_kd (c := fun (b_ : (Unit × Unit)) => (decide (a2 < (a1.length : Int)))) (t_lt (x_var (p := pInt a2) 1) (fun _ => x_kd (E := fun (b_ : Unit) => pInt (a1.length : Int)) (x_lenS m_len (x_var (p := (pS K) a1) 0))))) (fun (b50 : (Unit × Unit)) => s_T (T := (atI a1 a2).bind fun x52 => (some (x52 : Int)).bind fun x53 => some x53) (s_let (i := 2) pInt sc_l_stream.nd (x_kd (E := fun (b_ : ((Unit × Unit) × Int)) => pInt b_.2) (x_ixS (x_var (p := (pS K) a1) 0) (fun _ => x_var (p := pInt a2) 1))) fun (b54 : ((Unit × Unit) × Int)) x53 => s_end x53 rfl ⟨rfl, rfl, rfl, trivial⟩ (List.Sublist.refl _))) (fun (b50 : (Unit × Unit)) => s_end x48 rfl ⟨rfl, rfl, rfl, trivial⟩ (List.Sublist.refl _)) fun (b50 : (Unit × Unit)) s51 => s_T (T := grd ((sm s51 || sm (if (decide (((10 : Int) ^ (18 : Int).toNat) ≤ s51)) then 1 else 0 : Int)) = true) (some ([(s51 * (if (decide (((10 : Int) ^ (18 : Int).toNat) ≤ s51)) then 1 else 0 : Int)), (0 : Int), s51]))) (s_retO (P := (fun _ => [])) (Ro := (oL pInt)) (ι := id) (rv := fun (b : ((Unit × (Unit × (Unit × Unit))) × (Unit × (Unit × Unit)))) => [(s51 * (if (decide (((10 : Int) ^ (18 : Int).toNat) ≤ s51)) then 1 else 0 : Int)), (0 : Int), s51]) (fun _ _ _ h => h) (o_kd (o_kd (E := fun (b_ : ((Unit × (Unit × (Unit × Unit))) × (Unit × (Unit × Unit)))) => (oL pInt) ([(s51 * (if (decide (((10 : Int) ^ (18 : Int).toNat) ≤ s51)) then 1 else 0 : Int)), (0 : Int), s51])) (x_disp pInt (fun _ => [_, _, _]) (a_cons (x_kd (E := fun (b_ : (Unit × (Unit × (Unit × Unit)))) => pInt (s51 * (if (decide (((10 : Int) ^ (18 : Int).toNat) ≤ s51)) then 1 else 0 : Int))) (x_mul (x_var (p := pInt s51) 2) (fun _ => x_kd (E := fun (b_ : (Unit × (Unit × Unit))) => pInt (if (decide (((10 : Int) ^ (18 : Int).toNat) ≤ s51)) then 1 else 0 : Int)) (x_intB m_int (x_kd (E := fun (b_ : (Unit × (Unit × Unit))) => pBl (decide (((10 : Int) ^ (18 : Int).toNat) ≤ s51))) (x_ge (x_var (p := pInt s51) 2) (fun _ => x_kd (E := fun (b_ : (Unit × Unit)) => pInt ((10 : Int) ^ (18 : Int).toNat)) (x_pow (x_int (i := 10)) (fun _ => x_int (i := 18)) (fun _ _ => by decide))))))))) (fun _ => a_cons (x_int (i := 0)) (fun _ => a_cons (x_var (p := pInt s51) 2) (fun _ => a_nil)))) (fun _ => rfl) (fun _ => by simp)))) (fun _ => List.Sublist.refl _))))) (by unfold M_l_stream; rfl)
end
end My
end
section
set_option maxHeartbeats 4000000
set_option synthInstance.maxSize 2000
namespace My
open PySem PySem.Spec PyProof.Rows L2 L3
section
variable {P : Program} {w : World} {K : PySem.W.Frag} {mg : Str → Option Value} {base : Heap}
theorem sc_l_next : FnScope ["_law_stream_here", "_law_size", "_law_mixed", "_law_digit"] ["_law_stream_here", "_law_size"] (defScope (top 34)) := ⟨rfl, rfl, rfl, by decide +kernel, rfl, by decide +kernel, by decide +kernel⟩
theorem ok_l_next {f : Addr} {fd : FuncData} (C : Ev P K mg) (FD : FnP K "_law_next" (top 34) f fd)   : FnOk P w K mg base CX0 1 f fd ["_law_stream_here", "_law_size"] (Sp_OF_f (oL pInt) pInt M_l_next pInt) := by
  have m_int := C.m_int
  refine fn_OF_f FD sc_l_next rfl fun cdv A outer s H E hr v1 G1 a1 a2 => ?_
  exact s_is (s_T (T := (atI a1 (1 : Int)).bind fun x55 => (ixN a1.length (1 : Int)).bind fun (_ : Nat) => (atI (a1.set ((ixN a1.length (1 : Int)).getD 0) (x55 + (1 : Int))) (0 : Int)).bind fun x57 => if (decide ((0 : Int) < x57)) = true then (atI (a1.set ((ixN a1.length (1 : Int)).getD 0) (x55 + (1 : Int))) (0 : Int)).bind fun x59 => grd (0 < a2) ((some ((x59 % a2) : Int)).bind fun x60 => (atI (a1.set ((ixN a1.length (1 : Int)).getD 0) (x55 + (1 : Int))) (0 : Int)).bind fun x62 => grd (dv a2 = true) ((ixN (a1.set ((ixN a1.length (1 : Int)).getD 0) (x55 + (1 : Int))).length (0 : Int)).bind fun (_ : Nat) => some (x60, ((a1.set ((ixN a1.length (1 : Int)).getD 0) (x55 + (1 : Int))).set ((ixN (a1.set ((ixN a1.length (1 : Int)).getD 0) (x55 + (1 : Int))).length (0 : Int)).getD 0) (x62 / a2))))) else (atI (a1.set ((ixN a1.length (1 : Int)).getD 0) (x55 + (1 : Int))) (2 : Int)).bind fun x64 => (atI (a1.set ((ixN a1.length (1 : Int)).getD 0) (x55 + (1 : Int))) (1 : Int)).bind fun x65 => grd ((sm (7919 : Int) || sm x65) = true) (grd (0 < (2147483647 : Int)) ((some ((((x64 + ((7919 : Int) * x65)) + (13 : Int)) % (2147483647 : Int)) : Int)).bind fun x66 => grd ((sm x66 || sm (x66 + (48271 : Int))) = true) (grd (0 < (2147483629 : Int)) ((some (((x66 * (x66 + (48271 : Int))) % (2147483629 : Int)) : Int)).bind fun x68 => grd ((sm x68 || sm (x68 + (69621 : Int))) = true) ((atI (a1.set ((ixN a1.length (1 : Int)).getD 0) (x55 + (1 : Int))) (1 : Int)).bind fun x70 => grd ((sm (31 : Int) || sm x70) = true) (grd (0 < (2147483647 : Int)) ((some ((((x68 * (x68 + (69621 : Int))) + ((31 : Int) * x70)) % (2147483647 : Int)) : Int)).bind fun x71 => grd (dv (9 : Int) = true) (grd (0 < a2) (some (((x71 / (9 : Int)) % a2), (a1.set ((ixN a1.length (1 : Int)).getD 0) (x55 + (1 : Int)))))))))))))) (s_setL 0 (x_kd (E := fun (b_ : (((Unit × Unit) × Int) × Unit)) => pInt (b_.1.2 + (1 : Int))) (x_add (x_kd (E := fun (b_ : ((Unit × Unit) × Int)) => pInt b_.2) (x_ixL (Ee := pInt) (x_var (p := pV v1) 0) (fun _ => x_int (i := 1)) (fun _ _ => rdO 0))) (fun _ => x_int (i := 1)))) (fun _ => x_var (p := pV v1) 0) (fun _ _ => x_int (i := 1)) (fun _ _ _ => rfl) fun (b56 : (((((Unit × Unit) × Int) × Unit) × Unit) × Unit)) => s_T (T := (atI (a1.set ((ixN a1.length (1 : Int)).getD 0) (b56.1.1.1.2 + (1 : Int))) (0 : Int)).bind fun x57 => if (decide ((0 : Int) < x57)) = true then (atI (a1.set ((ixN a1.length (1 : Int)).getD 0) (b56.1.1.1.2 + (1 : Int))) (0 : Int)).bind fun x59 => grd (0 < a2) ((some ((x59 % a2) : Int)).bind fun x60 => (atI (a1.set ((ixN a1.length (1 : Int)).getD 0) (b56.1.1.1.2 + (1 : Int))) (0 : Int)).bind fun x62 => grd (dv a2 = true) ((ixN (a1.set ((ixN a1.length (1 : Int)).getD 0) (b56.1.1.1.2 + (1 : Int))).length (0 : Int)).bind fun (_ : Nat) => some (x60, ((a1.set ((ixN a1.length (1 : Int)).getD 0) (b56.1.1.1.2 + (1 : Int))).set ((ixN (a1.set ((ixN a1.length (1 : Int)).getD 0) (b56.1.1.1.2 + (1 : Int))).length (0 : Int)).getD 0) (x62 / a2))))) else (atI (a1.set ((ixN a1.length (1 : Int)).getD 0) (b56.1.1.1.2 + (1 : Int))) (2 : Int)).bind fun x64 => (atI (a1.set ((ixN a1.length (1 : Int)).getD 0) (b56.1.1.1.2 + (1 : Int))) (1 : Int)).bind fun x65 => grd ((sm (7919 : Int) || sm x65) = true) (grd (0 < (2147483647 : Int)) ((some ((((x64 + ((7919 : Int) * x65)) + (13 : Int)) % (2147483647 : Int)) : Int)).bind fun x66 => grd ((sm x66 || sm (x66 + (48271 : Int))) = true) (grd (0 < (2147483629 : Int)) ((some (((x66 * (x66 + (48271 : Int))) % (2147483629 : Int)) : Int)).bind fun x68 => grd ((sm x68 || sm (x68 + (69621 : Int))) = true) ((atI (a1.set ((ixN a1.length (1 : Int)).getD 0) (b56.1.1.1.2 + (1 : Int))) (1 : Int)).bind fun x70 => grd ((sm (31 : Int) || sm x70) = true) (grd (0 < (2147483647 : Int)) ((some ((((x68 * (x68 + (69621 : Int))) + ((31 : Int) * x70)) % (2147483647 : Int)) : Int)).bind fun x71 => grd (dv (9 : Int) = true) (grd (0 < a2) (some (((x71 / (9 : Int)) % a2), (a1.set ((ixN a1.length (1 : Int)).getD 0) (b56.1.1.1.2 + (1 : Int)))))))))))))) (s_ifT (ins_F _) (t_kd (c := fun (b_ : (((Unit × Unit) × Int) × Unit)) => (decide ((0 : Int) < b_.1.2))) (t_gt (x_kd (E := fun (b_ : ((Unit × Unit) × Int)) => pInt b_.2) (x_ixL (Ee := pInt) (x_var (p := pV v1) 0) (fun _ => x_int (i := 0)) (fun _ _ => rdO 0))) (fun _ => x_int (i := 0)))) (fun (b58 : (((Unit × Unit) × Int) × Unit)) => s_T (T := (atI (a1.set ((ixN a1.length (1 : Int)).getD 0) (b56.1.1.1.2 + (1 : Int))) (0 : Int)).bind fun x59 => grd (0 < a2) ((some ((x59 % a2) : Int)).bind fun x60 => (atI (a1.set ((ixN a1.length (1 : Int)).getD 0) (b56.1.1.1.2 + (1 : Int))) (0 : Int)).bind fun x62 => grd (dv a2 = true) ((ixN (a1.set ((ixN a1.length (1 : Int)).getD 0) (b56.1.1.1.2 + (1 : Int))).length (0 : Int)).bind fun (_ : Nat) => some (x60, ((a1.set ((ixN a1.length (1 : Int)).getD 0) (b56.1.1.1.2 + (1 : Int))).set ((ixN (a1.set ((ixN a1.length (1 : Int)).getD 0) (b56.1.1.1.2 + (1 : Int))).length (0 : Int)).getD 0) (x62 / a2)))))) (s_let (i := 3) pInt sc_l_next.nd (x_kd (E := fun (b_ : (((Unit × Unit) × Int) × Unit)) => pInt (b_.1.2 % a2)) (x_mod (x_kd (E := fun (b_ : ((Unit × Unit) × Int)) => pInt b_.2) (x_intI m_int (x_kd (E := fun (b_ : ((Unit × Unit) × Int)) => pInt b_.2) (x_ixL (Ee := pInt) (x_var (p := pV v1) 0) (fun _ => x_int (i := 0)) (fun _ _ => rdO 0))))) (fun _ => x_var (p := pInt a2) 1))) fun (b61 : (((Unit × Unit) × Int) × Unit)) x60 => s_T (T := (atI (a1.set ((ixN a1.length (1 : Int)).getD 0) (b56.1.1.1.2 + (1 : Int))) (0 : Int)).bind fun x62 => grd (dv a2 = true) ((ixN (a1.set ((ixN a1.length (1 : Int)).getD 0) (b56.1.1.1.2 + (1 : Int))).length (0 : Int)).bind fun (_ : Nat) => some (x60, ((a1.set ((ixN a1.length (1 : Int)).getD 0) (b56.1.1.1.2 + (1 : Int))).set ((ixN (a1.set ((ixN a1.length (1 : Int)).getD 0) (b56.1.1.1.2 + (1 : Int))).length (0 : Int)).getD 0) (x62 / a2))))) (s_setL 0 (x_kd (E := fun (b_ : (((Unit × Unit) × Int) × Unit)) => pInt (b_.1.2 / a2)) (x_fdiv (x_kd (E := fun (b_ : ((Unit × Unit) × Int)) => pInt b_.2) (x_ixL (Ee := pInt) (x_var (p := pV v1) 0) (fun _ => x_int (i := 0)) (fun _ _ => rdO 0))) (fun _ => x_var (p := pInt a2) 1))) (fun _ => x_var (p := pV v1) 0) (fun _ _ => x_int (i := 0)) (fun _ _ _ => rfl) fun (b63 : (((((Unit × Unit) × Int) × Unit) × Unit) × Unit)) => s_T (T := some (x60, ((a1.set ((ixN a1.length (1 : Int)).getD 0) (b56.1.1.1.2 + (1 : Int))).set ((ixN (a1.set ((ixN a1.length (1 : Int)).getD 0) (b56.1.1.1.2 + (1 : Int))).length (0 : Int)).getD 0) (b63.1.1.1.2 / a2)))) (s_ret (P := (fun (r : Int × (List Int)) => [⟨v1, (oL pInt) r.2, some 0⟩])) (Rp := (fun (r : Int × (List Int)) => pInt r.1)) (ι := id) (rv := fun (b : Unit) => (x60, ((a1.set ((ixN a1.length (1 : Int)).getD 0) (b56.1.1.1.2 + (1 : Int))).set ((ixN (a1.set ((ixN a1.length (1 : Int)).getD 0) (b56.1.1.1.2 + (1 : Int))).length (0 : Int)).getD 0) (b63.1.1.1.2 / a2)))) (fun _ _ _ h => h) (x_var (p := pInt x60) 3) (fun _ => List.Sublist.refl _))))) fun (b58 : (((Unit × Unit) × Int) × Unit)) => s_T (T := (atI (a1.set ((ixN a1.length (1 : Int)).getD 0) (b56.1.1.1.2 + (1 : Int))) (2 : Int)).bind fun x64 => (atI (a1.set ((ixN a1.length (1 : Int)).getD 0) (b56.1.1.1.2 + (1 : Int))) (1 : Int)).bind fun x65 => grd ((sm (7919 : Int) || sm x65) = true) (grd (0 < (2147483647 : Int)) ((some ((((x64 + ((7919 : Int) * x65)) + (13 : Int)) % (2147483647 : Int)) : Int)).bind fun x66 => grd ((sm x66 || sm (x66 + (48271 : Int))) = true) (grd (0 < (2147483629 : Int)) ((some (((x66 * (x66 + (48271 : Int))) % (2147483629 : Int)) : Int)).bind fun x68 => grd ((sm x68 || sm (x68 + (69621 : Int))) = true) ((atI (a1.set ((ixN a1.length (1 : Int)).getD 0) (b56.1.1.1.2 + (1 : Int))) (1 : Int)).bind fun x70 => grd ((sm (31 : Int) || sm x70) = true) (grd (0 < (2147483647 : Int)) ((some ((((x68 * (x68 + (69621 : Int))) + ((31 : Int) * x70)) % (2147483647 : Int)) : Int)).bind fun x71 => grd (dv (9 : Int) = true) (grd (0 < a2) (some (((x71 / (9 : Int)) % a2), (a1.set ((ixN a1.length (1 : Int)).getD 0) (b56.1.1.1.2 + (1 : Int)))))))))))))) (s_let (i := 2) pInt sc_l_next.nd (x_kd (E := fun (b_ : (((((Unit × Unit) × Int) × (Unit × ((Unit × Unit) × Int))) × Unit) × Unit)) => pInt (((b_.1.1.1.2 + ((7919 : Int) * b_.1.1.2.2.2)) + (13 : Int)) % (2147483647 : Int))) (x_mod (x_kd (E := fun (b_ : ((((Unit × Unit) × Int) × (Unit × ((Unit × Unit) × Int))) × Unit)) => pInt ((b_.1.1.2 + ((7919 : Int) * b_.1.2.2.2)) + (13 : Int))) (x_intI m_int (x_kd (E := fun (b_ : ((((Unit × Unit) × Int) × (Unit × ((Unit × Unit) × Int))) × Unit)) => pInt ((b_.1.1.2 + ((7919 : Int) * b_.1.2.2.2)) + (13 : Int))) (x_add (x_kd (E := fun (b_ : (((Unit × Unit) × Int) × (Unit × ((Unit × Unit) × Int)))) => pInt (b_.1.2 + ((7919 : Int) * b_.2.2.2))) (x_add (x_kd (E := fun (b_ : ((Unit × Unit) × Int)) => pInt b_.2) (x_ixL (Ee := pInt) (x_var (p := pV v1) 0) (fun _ => x_int (i := 2)) (fun _ _ => rdO 0))) (fun _ => x_kd (E := fun (b_ : (Unit × ((Unit × Unit) × Int))) => pInt ((7919 : Int) * b_.2.2)) (x_mul (x_int (i := 7919)) (fun _ => x_kd (E := fun (b_ : ((Unit × Unit) × Int)) => pInt b_.2) (x_ixL (Ee := pInt) (x_var (p := pV v1) 0) (fun _ => x_int (i := 1)) (fun _ _ => rdO 0))))))) (fun _ => x_int (i := 13)))))) (fun _ => x_int (i := 2147483647)))) fun (b67 : (((((Unit × Unit) × Int) × (Unit × ((Unit × Unit) × Int))) × Unit) × Unit)) x66 => s_T (T := grd ((sm x66 || sm (x66 + (48271 : Int))) = true) (grd (0 < (2147483629 : Int)) ((some (((x66 * (x66 + (48271 : Int))) % (2147483629 : Int)) : Int)).bind fun x68 => grd ((sm x68 || sm (x68 + (69621 : Int))) = true) ((atI (a1.set ((ixN a1.length (1 : Int)).getD 0) (b56.1.1.1.2 + (1 : Int))) (1 : Int)).bind fun x70 => grd ((sm (31 : Int) || sm x70) = true) (grd (0 < (2147483647 : Int)) ((some ((((x68 * (x68 + (69621 : Int))) + ((31 : Int) * x70)) % (2147483647 : Int)) : Int)).bind fun x71 => grd (dv (9 : Int) = true) (grd (0 < a2) (some (((x71 / (9 : Int)) % a2), (a1.set ((ixN a1.length (1 : Int)).getD 0) (b56.1.1.1.2 + (1 : Int)))))))))))) (s_let (i := 2) pInt sc_l_next.nd (x_kd (E := fun (b_ : ((Unit × (Unit × Unit)) × Unit)) => pInt ((x66 * (x66 + (48271 : Int))) % (2147483629 : Int))) (x_mod (x_kd (E := fun (b_ : (Unit × (Unit × Unit))) => pInt (x66 * (x66 + (48271 : Int)))) (x_intI m_int (x_kd (E := fun (b_ : (Unit × (Unit × Unit))) => pInt (x66 * (x66 + (48271 : Int)))) (x_mul (x_var (p := pInt x66) 2) (fun _ => x_kd (E := fun (b_ : (Unit × Unit)) => pInt (x66 + (48271 : Int))) (x_add (x_var (p := pInt x66) 2) (fun _ => x_int (i := 48271)))))))) (fun _ => x_int (i := 2147483629)))) fun (b69 : ((Unit × (Unit × Unit)) × Unit)) x68 => s_T (T := grd ((sm x68 || sm (x68 + (69621 : Int))) = true) ((atI (a1.set ((ixN a1.length (1 : Int)).getD 0) (b56.1.1.1.2 + (1 : Int))) (1 : Int)).bind fun x70 => grd ((sm (31 : Int) || sm x70) = true) (grd (0 < (2147483647 : Int)) ((some ((((x68 * (x68 + (69621 : Int))) + ((31 : Int) * x70)) % (2147483647 : Int)) : Int)).bind fun x71 => grd (dv (9 : Int) = true) (grd (0 < a2) (some (((x71 / (9 : Int)) % a2), (a1.set ((ixN a1.length (1 : Int)).getD 0) (b56.1.1.1.2 + (1 : Int)))))))))) (s_let (i := 2) pInt sc_l_next.nd (x_kd (E := fun (b_ : (((Unit × (Unit × Unit)) × (Unit × ((Unit × Unit) × Int))) × Unit)) => pInt (((x68 * (x68 + (69621 : Int))) + ((31 : Int) * b_.1.2.2.2)) % (2147483647 : Int))) (x_mod (x_kd (E := fun (b_ : ((Unit × (Unit × Unit)) × (Unit × ((Unit × Unit) × Int)))) => pInt ((x68 * (x68 + (69621 : Int))) + ((31 : Int) * b_.2.2.2))) (x_intI m_int (x_kd (E := fun (b_ : ((Unit × (Unit × Unit)) × (Unit × ((Unit × Unit) × Int)))) => pInt ((x68 * (x68 + (69621 : Int))) + ((31 : Int) * b_.2.2.2))) (x_add (x_kd (E := fun (b_ : (Unit × (Unit × Unit))) => pInt (x68 * (x68 + (69621 : Int)))) (x_mul (x_var (p := pInt x68) 2) (fun _ => x_kd (E := fun (b_ : (Unit × Unit)) => pInt (x68 + (69621 : Int))) (x_add (x_var (p := pInt x68) 2) (fun _ => x_int (i := 69621)))))) (fun _ => x_kd (E := fun (b_ : (Unit × ((Unit × Unit) × Int))) => pInt ((31 : Int) * b_.2.2)) (x_mul (x_int (i := 31)) (fun _ => x_kd (E := fun (b_ : ((Unit × Unit) × Int)) => pInt b_.2) (x_ixL (Ee := pInt) (x_var (p := pV v1) 0) (fun _ => x_int (i := 1)) (fun _ _ => rdO 0))))))))) (fun _ => x_int (i := 2147483647)))) fun (b72 : (((Unit × (Unit × Unit)) × (Unit × ((Unit × Unit) × Int))) × Unit)) x71 => s_T (T := grd (dv (9 : Int) = true) (grd (0 < a2) (some (((x71 / (9 : Int)) % a2), (a1.set ((ixN a1.length (1 : Int)).getD 0) (b56.1.1.1.2 + (1 : Int))))))) (s_ret (P := (fun (r : Int × (List Int)) => [⟨v1, (oL pInt) r.2, some 0⟩])) (Rp := (fun (r : Int × (List Int)) => pInt r.1)) (ι := id) (rv := fun (b : ((Unit × Unit) × Unit)) => (((x71 / (9 : Int)) % a2), (a1.set ((ixN a1.length (1 : Int)).getD 0) (b56.1.1.1.2 + (1 : Int))))) (fun _ _ _ h => h) (x_kd (x_kd (E := fun (b_ : ((Unit × Unit) × Unit)) => pInt ((x71 / (9 : Int)) % a2)) (x_mod (x_kd (E := fun (b_ : (Unit × Unit)) => pInt (x71 / (9 : Int))) (x_intI m_int (x_kd (E := fun (b_ : (Unit × Unit)) => pInt (x71 / (9 : Int))) (x_fdiv (x_var (p := pInt x71) 2) (fun _ => x_int (i := 9)))))) (fun _ => x_var (p := pInt a2) 1)))) (fun _ => List.Sublist.refl _)))))))) (by unfold M_l_next; rfl)
end
end My
end
section
set_option maxHeartbeats 4000000
set_option synthInstance.maxSize 2000
namespace My
open PySem PySem.Spec PyProof.Rows L2 L3
section
variable {P : Program} {w : World} {K : PySem.W.Frag} {mg : Str → Option Value} {base : Heap}
theorem sc_l_names : FnScope ["_law_stream_here", "_law_count", "_law_letters", "_law_names_here", "_law_k", "_law_shift", "_law_plain", "_law_at", "_law_size", "_law_tail"] ["_law_stream_here", "_law_count"] (defScope (top 35)) := ⟨rfl, rfl, rfl, by decide +kernel, rfl, by decide +kernel, by decide +kernel⟩
theorem ok_l_names {f : Addr} {fd : FuncData} (C : Ev P K mg) (FD : FnP K "_law_names" (top 35) f fd)   : FnOk P w K mg base CX0 2 f fd ["_law_stream_here", "_law_count"] (Sp_OF_f (oL pInt) pInt M_l_names (pL pStr)) := by
  have m_int := C.m_int
  have m_range := C.m_range
  obtain ⟨f_l_next, fd_l_next, F_l_next, g_l_next⟩ := C.f_l_next
  have k_l_next := ok_l_next (P := P) (w := w) (base := base) C F_l_next
  have b_l_next : Binds K fd_l_next ["_law_stream_here", "_law_size"] [] := F_l_next.bindsN fun _ _ _ _ _ _ us hl => match us, hl with | [_, _], _ => rfl
  refine fn_OF_f FD sc_l_names rfl fun cdv A outer s H E hr v1 G1 a1 a2 => ?_
  exact s_is (s_T (T := (M_l_next a1 (3 : Int)).bind fun r73 => if (decide ((r73.1) = (0 : Int))) = true then (M_l_next (r73.2) (8 : Int)).bind fun r75 => (some (r75.1 : Int)).bind fun x76 => (some ([("x" : Str), ("yard" : Str), ("z" : Str), ("u" : Str), ("wide_one" : Str), ("q" : Str), ("pp" : Str), ("t" : Str)] : List Str)).bind fun x78 => grd (rg a2 = true) ((compM (rngL 0 a2.toNat) () (fun x81 s83 => if true = true then grd ((sm x81 || sm (3 : Int)) = true) (grd (0 < (8 : Int)) ((atI x78 (((x81 * (3 : Int)) + x76) % (8 : Int))).bind fun x85 => some (some x85, ()))) else some (none, ()))).bind fun r86 => some (r86.1, r75.2)) else (some (("qwertyuiopasdfghjklzxcvbnm_zyx" : Str) : Str)).bind fun x87 => (some ([] : List Str)).bind fun x89 => grd (rg a2 = true) ((forS (rngL 0 a2.toNat) ((x89, r73.2) : (List Str) × (List Int)) fun x95 s94 => (M_l_next (s94.2) (26 : Int)).bind fun r97 => (some (r97.1 : Int)).bind fun x98 => (M_l_next (r97.2) (3 : Int)).bind fun r100 => (some (((1 : Int) + (r100.1)) : Int)).bind fun x101 => (M_l_next (r100.2) (3 : Int)).bind fun r103 => grd (x87.length ≤ sizeLine) ((some ((cutS x87 (some ((26 : Int) - (r103.1))) (some (26 : Int))) : Str)).bind fun x104 => grd (x87.length ≤ sizeLine) (grd (("7305186429" : Str).length ≤ sizeLine) ((atI ("7305186429" : Str).cps.toList x95).bind fun x106 => grd ((cutS x87 (some x98) (some (x98 + x101))).length + (⟨#[x106]⟩ : Str).length ≤ sizeLine) (grd (((cutS x87 (some x98) (some (x98 + x101))) ++ (⟨#[x106]⟩ : Str)).length + x104.length ≤ sizeLine) (grd ((s94.1).length < sizeLine) (some (((s94.1) ++ [(((cutS x87 (some x98) (some (x98 + x101))) ++ (⟨#[x106]⟩ : Str)) ++ x104)]), r103.2)))))))).bind fun s96 => some (s96.1, s96.2))) (s_ifT (ins_F _) (t_kd (c := fun (b_ : (((Unit × Unit) × (Int × (List Int))) × Unit)) => (decide ((b_.1.2.1) = (0 : Int)))) (t_eqI (x_kd (E := fun (b_ : ((Unit × Unit) × (Int × (List Int)))) => pInt b_.2.1) (x_OF_f (kk := 1) (E1 := (oL pInt)) (E2 := pInt) (s1 := fun (_ : Unit) (_ : Unit) => a1) (v1 := v1) k_l_next (hr.mono (by decide)) g_l_next F_l_next.kp b_l_next 0 (x_var (p := pV v1) 0) (fun _ => x_int (i := 3)) (fun _ _ => rfl))) (fun _ => x_int (i := 0)))) (fun (b74 : (((Unit × Unit) × (Int × (List Int))) × Unit)) => s_T (T := (M_l_next (b74.1.2.2) (8 : Int)).bind fun r75 => (some (r75.1 : Int)).bind fun x76 => (some ([("x" : Str), ("yard" : Str), ("z" : Str), ("u" : Str), ("wide_one" : Str), ("q" : Str), ("pp" : Str), ("t" : Str)] : List Str)).bind fun x78 => grd (rg a2 = true) ((compM (rngL 0 a2.toNat) () (fun x81 s83 => if true = true then grd ((sm x81 || sm (3 : Int)) = true) (grd (0 < (8 : Int)) ((atI x78 (((x81 * (3 : Int)) + x76) % (8 : Int))).bind fun x85 => some (some x85, ()))) else some (none, ()))).bind fun r86 => some (r86.1, r75.2))) (s_let (i := 5) pInt sc_l_names.nd (x_kd (E := fun (b_ : ((Unit × Unit) × (Int × (List Int)))) => pInt b_.2.1) (x_OF_f (kk := 1) (E1 := (oL pInt)) (E2 := pInt) (s1 := fun (_ : Unit) (_ : Unit) => b74.1.2.2) (v1 := v1) k_l_next (hr.mono (by decide)) g_l_next F_l_next.kp b_l_next 0 (x_var (p := pV v1) 0) (fun _ => x_int (i := 8)) (fun _ _ => rfl))) fun (b77 : ((Unit × Unit) × (Int × (List Int)))) x76 => s_T (T := (some ([("x" : Str), ("yard" : Str), ("z" : Str), ("u" : Str), ("wide_one" : Str), ("q" : Str), ("pp" : Str), ("t" : Str)] : List Str)).bind fun x78 => grd (rg a2 = true) ((compM (rngL 0 a2.toNat) () (fun x81 s83 => if true = true then grd ((sm x81 || sm (3 : Int)) = true) (grd (0 < (8 : Int)) ((atI x78 (((x81 * (3 : Int)) + x76) % (8 : Int))).bind fun x85 => some (some x85, ()))) else some (none, ()))).bind fun r86 => some (r86.1, b77.2.2))) (s_let (i := 6) (pL pStr) sc_l_names.nd (x_kd (E := fun (b_ : (Unit × (Unit × (Unit × (Unit × (Unit × (Unit × (Unit × (Unit × Unit))))))))) => (pL pStr) ([("x" : Str), ("yard" : Str), ("z" : Str), ("u" : Str), ("wide_one" : Str), ("q" : Str), ("pp" : Str), ("t" : Str)])) (x_frz (o_kd (E := fun (b_ : (Unit × (Unit × (Unit × (Unit × (Unit × (Unit × (Unit × (Unit × Unit))))))))) => (oL pStr) ([("x" : Str), ("yard" : Str), ("z" : Str), ("u" : Str), ("wide_one" : Str), ("q" : Str), ("pp" : Str), ("t" : Str)])) (x_disp pStr (fun _ => [_, _, _, _, _, _, _, _]) (a_cons x_str (fun _ => a_cons x_str (fun _ => a_cons x_str (fun _ => a_cons x_str (fun _ => a_cons x_str (fun _ => a_cons x_str (fun _ => a_cons x_str (fun _ => a_cons x_str (fun _ => a_nil))))))))) (fun _ => rfl) (fun _ => by simp))))) fun (b79 : (Unit × (Unit × (Unit × (Unit × (Unit × (Unit × (Unit × (Unit × Unit))))))))) x78 => s_T (T := grd (rg a2 = true) ((compM (rngL 0 a2.toNat) () (fun x81 s83 => if true = true then grd ((sm x81 || sm (3 : Int)) = true) (grd (0 < (8 : Int)) ((atI x78 (((x81 * (3 : Int)) + x76) % (8 : Int))).bind fun x85 => some (some x85, ()))) else some (none, ()))).bind fun r86 => some (r86.1, b77.2.2))) (s_ret (P := (fun (r : (List Str) × (List Int)) => [⟨v1, (oL pInt) r.2, some 0⟩])) (Rp := (fun (r : (List Str) × (List Int)) => (pL pStr) r.1)) (ι := id) (rv := fun (b : (Unit × ((List Str) × Unit))) => (b.2.1, b77.2.2)) (fun _ _ _ h => h) (x_kd (x_kd (E := fun (b_ : (Unit × ((List Str) × Unit))) => (pL pStr) b_.2.1) (x_frz (o_kd (E := fun (b_ : (Unit × ((List Str) × Unit))) => (oL pStr) b_.2.1) (x_lc (own := [("_law_k", 4)]) (C := fun (b_ : Unit) (s_ : Unit) => [⟨v1, (oL pInt) b77.2.2, some 0⟩]) (s0 := fun (b_ : Unit) => ()) (s2 := fun (b_ : Unit) (x_ : Int) (s_ : Unit) (c_ : Unit) => ()) (s3 := fun (b_ : Unit) (x_ : Int) (s_ : Unit) (c_ : Unit) (d_ : ((Unit × (((Unit × Unit) × Unit) × Unit)) × Str)) => ()) (Ex := pInt) (Ee := pStr) (δ := Str) (y := fun (b_ : Unit) (x_ : Int) (s_ : Unit) (c_ : Unit) (d_ : ((Unit × (((Unit × Unit) × Unit) × Unit)) × Str)) => d_.2) (T2 := fun (b_ : Unit) (x_ : Int) (s_ : Unit) (c_ : Unit) => grd ((sm x_ || sm (3 : Int)) = true) (grd (0 < (8 : Int)) ((atI x78 (((x_ * (3 : Int)) + x76) % (8 : Int))).bind fun x85 => some (some x85, ())))) (c := fun (b_ : Unit) (x_ : Int) (s_ : Unit) (c_ : Unit) => true) (f := fun (b_ : Unit) (x_ : Int) (s_ : Unit) => if true = true then grd ((sm x_ || sm (3 : Int)) = true) (grd (0 < (8 : Int)) ((atI x78 (((x_ * (3 : Int)) + x76) % (8 : Int))).bind fun x85 => some (some x85, ()))) else some (none, ())) sc_l_names.nd (i_rng1 m_range (x_var (p := pInt a2) 1)) (blkOk_by (own := [("_law_k", 4)]) (N := ["_law_stream_here", "_law_count", "_law_letters", "_law_names_here", "_law_k", "_law_shift", "_law_plain", "_law_at", "_law_size", "_law_tail"]) (sc := (defScope (top 35))) (by decide +kernel)) (fun _ _ _ _ _ => pg_name (i := 4) sc_l_names.nd rfl (by first | exact .inl rfl | exact .inr rfl)) (tw_name 4) (fun _ => rfl) (by exact fun q84 _ _ _ _ _ b80 x81 s83 => pts_T) (by exact fun q84 _ _ _ _ _ b80 x81 s83 _ => x_out (x_kd (E := fun (b_ : ((Unit × (((Unit × Unit) × Unit) × Unit)) × Str)) => pStr b_.2) (x_ixL (Ee := pStr) (x_var (p := (pL pStr) x78) 6) (fun _ => x_kd (E := fun (b_ : (((Unit × Unit) × Unit) × Unit)) => pInt (((x81 * (3 : Int)) + x76) % (8 : Int))) (x_mod (x_kd (E := fun (b_ : ((Unit × Unit) × Unit)) => pInt ((x81 * (3 : Int)) + x76)) (x_intI m_int (x_kd (E := fun (b_ : ((Unit × Unit) × Unit)) => pInt ((x81 * (3 : Int)) + x76)) (x_add (x_kd (E := fun (b_ : (Unit × Unit)) => pInt (x81 * (3 : Int))) (x_mul (x_var (p := pInt x81) 4) (fun _ => x_int (i := 3)))) (fun _ => x_var (p := pInt x76) 5))))) (fun _ => x_int (i := 8)))) (fun _ _ => rdF))))))))) (fun _ => List.Sublist.refl _))))) fun (b74 : (((Unit × Unit) × (Int × (List Int))) × Unit)) => s_T (T := (some (("qwertyuiopasdfghjklzxcvbnm_zyx" : Str) : Str)).bind fun x87 => (some ([] : List Str)).bind fun x89 => grd (rg a2 = true) ((forS (rngL 0 a2.toNat) ((x89, b74.1.2.2) : (List Str) × (List Int)) fun x95 s94 => (M_l_next (s94.2) (26 : Int)).bind fun r97 => (some (r97.1 : Int)).bind fun x98 => (M_l_next (r97.2) (3 : Int)).bind fun r100 => (some (((1 : Int) + (r100.1)) : Int)).bind fun x101 => (M_l_next (r100.2) (3 : Int)).bind fun r103 => grd (x87.length ≤ sizeLine) ((some ((cutS x87 (some ((26 : Int) - (r103.1))) (some (26 : Int))) : Str)).bind fun x104 => grd (x87.length ≤ sizeLine) (grd (("7305186429" : Str).length ≤ sizeLine) ((atI ("7305186429" : Str).cps.toList x95).bind fun x106 => grd ((cutS x87 (some x98) (some (x98 + x101))).length + (⟨#[x106]⟩ : Str).length ≤ sizeLine) (grd (((cutS x87 (some x98) (some (x98 + x101))) ++ (⟨#[x106]⟩ : Str)).length + x104.length ≤ sizeLine) (grd ((s94.1).length < sizeLine) (some (((s94.1) ++ [(((cutS x87 (some x98) (some (x98 + x101))) ++ (⟨#[x106]⟩ : Str)) ++ x104)]), r103.2)))))))).bind fun s96 => some (s96.1, s96.2))) (s_let (i := 2) pStr sc_l_names.nd x_str fun (b88 : Unit) x87 => s_T (T := (some ([] : List Str)).bind fun x89 => grd (rg a2 = true) ((forS (rngL 0 a2.toNat) ((x89, b74.1.2.2) : (List Str) × (List Int)) fun x95 s94 => (M_l_next (s94.2) (26 : Int)).bind fun r97 => (some (r97.1 : Int)).bind fun x98 => (M_l_next (r97.2) (3 : Int)).bind fun r100 => (some (((1 : Int) + (r100.1)) : Int)).bind fun x101 => (M_l_next (r100.2) (3 : Int)).bind fun r103 => grd (x87.length ≤ sizeLine) ((some ((cutS x87 (some ((26 : Int) - (r103.1))) (some (26 : Int))) : Str)).bind fun x104 => grd (x87.length ≤ sizeLine) (grd (("7305186429" : Str).length ≤ sizeLine) ((atI ("7305186429" : Str).cps.toList x95).bind fun x106 => grd ((cutS x87 (some x98) (some (x98 + x101))).length + (⟨#[x106]⟩ : Str).length ≤ sizeLine) (grd (((cutS x87 (some x98) (some (x98 + x101))) ++ (⟨#[x106]⟩ : Str)).length + x104.length ≤ sizeLine) (grd ((s94.1).length < sizeLine) (some (((s94.1) ++ [(((cutS x87 (some x98) (some (x98 + x101))) ++ (⟨#[x106]⟩ : Str)) ++ x104)]), r103.2)))))))).bind fun s96 => some (s96.1, s96.2))) (s_letO (i := 3) (oL pStr) sc_l_names.nd (o_kd (E := fun (b_ : Unit) => (oL pStr) ([])) (x_nil pStr)) fun (b90 : Unit) x89 v92 => s_T (T := grd (rg a2 = true) ((forS (rngL 0 a2.toNat) ((x89, b74.1.2.2) : (List Str) × (List Int)) fun x95 s94 => (M_l_next (s94.2) (26 : Int)).bind fun r97 => (some (r97.1 : Int)).bind fun x98 => (M_l_next (r97.2) (3 : Int)).bind fun r100 => (some (((1 : Int) + (r100.1)) : Int)).bind fun x101 => (M_l_next (r100.2) (3 : Int)).bind fun r103 => grd (x87.length ≤ sizeLine) ((some ((cutS x87 (some ((26 : Int) - (r103.1))) (some (26 : Int))) : Str)).bind fun x104 => grd (x87.length ≤ sizeLine) (grd (("7305186429" : Str).length ≤ sizeLine) ((atI ("7305186429" : Str).cps.toList x95).bind fun x106 => grd ((cutS x87 (some x98) (some (x98 + x101))).length + (⟨#[x106]⟩ : Str).length ≤ sizeLine) (grd (((cutS x87 (some x98) (some (x98 + x101))) ++ (⟨#[x106]⟩ : Str)).length + x104.length ≤ sizeLine) (grd ((s94.1).length < sizeLine) (some (((s94.1) ++ [(((cutS x87 (some x98) (some (x98 + x101))) ++ (⟨#[x106]⟩ : Str)) ++ x104)]), r103.2)))))))).bind fun s96 => some (s96.1, s96.2))) (s_forS PassesOwn.never (fun (b_ : Unit) (s_ : (List Str) × (List Int)) => ([some (pV v1), some (pInt a2), some (pStr x87), some (pV v92), none, none, none, none, none, none], [⟨v92, (oL pStr) s_.1, none⟩, ⟨v1, (oL pInt) s_.2, some 0⟩])) (fun (b_ : Unit) => (x89, b74.1.2.2)) (i_rng1 m_range (x_var (p := pInt a2) 1)) (pg_name (i := 4) sc_l_names.nd rfl (by first | exact .inl rfl | exact .inr rfl)) (tg_name 4) (fun _ => ⟨rfl, rfl, rfl, rfl, trivial⟩) (fun _ => List.Sublist.refl _) (fun b93 x95 s94 => s_T (T := (M_l_next (s94.2) (26 : Int)).bind fun r97 => (some (r97.1 : Int)).bind fun x98 => (M_l_next (r97.2) (3 : Int)).bind fun r100 => (some (((1 : Int) + (r100.1)) : Int)).bind fun x101 => (M_l_next (r100.2) (3 : Int)).bind fun r103 => grd (x87.length ≤ sizeLine) ((some ((cutS x87 (some ((26 : Int) - (r103.1))) (some (26 : Int))) : Str)).bind fun x104 => grd (x87.length ≤ sizeLine) (grd (("7305186429" : Str).length ≤ sizeLine) ((atI ("7305186429" : Str).cps.toList x95).bind fun x106 => grd ((cutS x87 (some x98) (some (x98 + x101))).length + (⟨#[x106]⟩ : Str).length ≤ sizeLine) (grd (((cutS x87 (some x98) (some (x98 + x101))) ++ (⟨#[x106]⟩ : Str)).length + x104.length ≤ sizeLine) (grd ((s94.1).length < sizeLine) (some (((s94.1) ++ [(((cutS x87 (some x98) (some (x98 + x101))) ++ (⟨#[x106]⟩ : Str)) ++ x104)]), r103.2)))))))) (s_let (i := 7) pInt sc_l_names.nd (x_kd (E := fun (b_ : ((Unit × Unit) × (Int × (List Int)))) => pInt b_.2.1) (x_OF_f (kk := 1) (E1 := (oL pInt)) (E2 := pInt) (s1 := fun (_ : Unit) (_ : Unit) => s94.2) (v1 := v1) k_l_next (hr.mono (by decide)) g_l_next F_l_next.kp b_l_next 1 (x_var (p := pV v1) 0) (fun _ => x_int (i := 26)) (fun _ _ => rfl))) fun (b99 : ((Unit × Unit) × (Int × (List Int)))) x98 => s_T (T := (M_l_next (b99.2.2) (3 : Int)).bind fun r100 => (some (((1 : Int) + (r100.1)) : Int)).bind fun x101 => (M_l_next (r100.2) (3 : Int)).bind fun r103 => grd (x87.length ≤ sizeLine) ((some ((cutS x87 (some ((26 : Int) - (r103.1))) (some (26 : Int))) : Str)).bind fun x104 => grd (x87.length ≤ sizeLine) (grd (("7305186429" : Str).length ≤ sizeLine) ((atI ("7305186429" : Str).cps.toList x95).bind fun x106 => grd ((cutS x87 (some x98) (some (x98 + x101))).length + (⟨#[x106]⟩ : Str).length ≤ sizeLine) (grd (((cutS x87 (some x98) (some (x98 + x101))) ++ (⟨#[x106]⟩ : Str)).length + x104.length ≤ sizeLine) (grd ((s94.1).length < sizeLine) (some (((s94.1) ++ [(((cutS x87 (some x98) (some (x98 + x101))) ++ (⟨#[x106]⟩ : Str)) ++ x104)]), r103.2)))))))) (s_let (i := 8) pInt sc_l_names.nd (x_kd (E := fun (b_ : (Unit × ((Unit × Unit) × (Int × (List Int))))) => pInt ((1 : Int) + (b_.2.2.1))) (x_add (x_int (i := 1)) (fun _ => x_kd (E := fun (b_ : ((Unit × Unit) × (Int × (List Int)))) => pInt b_.2.1) (x_OF_f (kk := 1) (E1 := (oL pInt)) (E2 := pInt) (s1 := fun (_ : Unit) (_ : Unit) => b99.2.2) (v1 := v1) k_l_next (hr.mono (by decide)) g_l_next F_l_next.kp b_l_next 1 (x_var (p := pV v1) 0) (fun _ => x_int (i := 3)) (fun _ _ => rfl))))) fun (b102 : (Unit × ((Unit × Unit) × (Int × (List Int))))) x101 => s_T (T := (M_l_next (b102.2.2.2) (3 : Int)).bind fun r103 => grd (x87.length ≤ sizeLine) ((some ((cutS x87 (some ((26 : Int) - (r103.1))) (some (26 : Int))) : Str)).bind fun x104 => grd (x87.length ≤ sizeLine) (grd (("7305186429" : Str).length ≤ sizeLine) ((atI ("7305186429" : Str).cps.toList x95).bind fun x106 => grd ((cutS x87 (some x98) (some (x98 + x101))).length + (⟨#[x106]⟩ : Str).length ≤ sizeLine) (grd (((cutS x87 (some x98) (some (x98 + x101))) ++ (⟨#[x106]⟩ : Str)).length + x104.length ≤ sizeLine) (grd ((s94.1).length < sizeLine) (some (((s94.1) ++ [(((cutS x87 (some x98) (some (x98 + x101))) ++ (⟨#[x106]⟩ : Str)) ++ x104)]), r103.2)))))))) (s_let (i := 9) pStr sc_l_names.nd (x_kd (E := fun (b_ : (Unit × ((Unit × ((Unit × Unit) × (Int × (List Int)))) × Unit))) => pStr (cutS x87 (some ((26 : Int) - (b_.2.1.2.2.1))) (some (26 : Int)))) (x_slS (x_var (p := pStr x87) 2) (fun _ => p_some (i := fun (b_ : (Unit × ((Unit × Unit) × (Int × (List Int))))) => ((26 : Int) - (b_.2.2.1))) (x_kd (E := fun (b_ : (Unit × ((Unit × Unit) × (Int × (List Int))))) => pInt ((26 : Int) - (b_.2.2.1))) (x_sub (x_int (i := 26)) (fun _ => x_kd (E := fun (b_ : ((Unit × Unit) × (Int × (List Int)))) => pInt b_.2.1) (x_OF_f (kk := 1) (E1 := (oL pInt)) (E2 := pInt) (s1 := fun (_ : Unit) (_ : Unit) => b102.2.2.2) (v1 := v1) k_l_next (hr.mono (by decide)) g_l_next F_l_next.kp b_l_next 1 (x_var (p := pV v1) 0) (fun _ => x_int (i := 3)) (fun _ _ => rfl)))))) (fun _ _ => p_some (i := fun (b_ : Unit) => (26 : Int)) (x_int (i := 26))))) fun (b105 : (Unit × ((Unit × ((Unit × Unit) × (Int × (List Int)))) × Unit))) x104 => s_T (T := grd (x87.length ≤ sizeLine) (grd (("7305186429" : Str).length ≤ sizeLine) ((atI ("7305186429" : Str).cps.toList x95).bind fun x106 => grd ((cutS x87 (some x98) (some (x98 + x101))).length + (⟨#[x106]⟩ : Str).length ≤ sizeLine) (grd (((cutS x87 (some x98) (some (x98 + x101))) ++ (⟨#[x106]⟩ : Str)).length + x104.length ≤ sizeLine) (grd ((s94.1).length < sizeLine) (some (((s94.1) ++ [(((cutS x87 (some x98) (some (x98 + x101))) ++ (⟨#[x106]⟩ : Str)) ++ x104)]), b105.2.1.2.2.2))))))) (s_expr (x_app 0 (x_var (p := pV v92) 3) (fun _ => x_kd (E := fun (b_ : (((Unit × (Unit × (Unit × Unit))) × ((Unit × Unit) × Nat)) × Unit)) => pStr (((cutS x87 (some x98) (some (x98 + x101))) ++ (⟨#[b_.1.2.2]⟩ : Str)) ++ x104)) (x_addS (x_kd (E := fun (b_ : ((Unit × (Unit × (Unit × Unit))) × ((Unit × Unit) × Nat))) => pStr ((cutS x87 (some x98) (some (x98 + x101))) ++ (⟨#[b_.2.2]⟩ : Str))) (x_addS (x_kd (E := fun (b_ : (Unit × (Unit × (Unit × Unit)))) => pStr (cutS x87 (some x98) (some (x98 + x101)))) (x_slS (x_var (p := pStr x87) 2) (fun _ => p_some (i := fun (b_ : Unit) => x98) (x_var (p := pInt x98) 7)) (fun _ _ => p_some (i := fun (b_ : (Unit × Unit)) => (x98 + x101)) (x_kd (E := fun (b_ : (Unit × Unit)) => pInt (x98 + x101)) (x_add (x_var (p := pInt x98) 7) (fun _ => x_var (p := pInt x101) 8)))))) (fun _ => x_kd (E := fun (b_ : ((Unit × Unit) × Nat)) => pStr (⟨#[b_.2]⟩ : Str)) (x_ixC x_str (fun _ => x_var (p := pInt x95) 4))))) (fun _ => x_var (p := pStr x104) 9))) (fun _ => rfl) (fun _ _ => rfl)) fun (b107 : (Unit × (((Unit × (Unit × (Unit × Unit))) × ((Unit × Unit) × Nat)) × Unit))) => s_end (((s94.1) ++ [(((cutS x87 (some x98) (some (x98 + x101))) ++ (⟨#[b107.2.1.2.2]⟩ : Str)) ++ x104)]), b105.2.1.2.2.2) rfl ⟨rfl, rfl, rfl, rfl, trivial⟩ (List.Sublist.refl _)))))) fun b93 s96 => s_T (T := some (s96.1, s96.2)) (s_frz (i := 3) (c := ⟨v92, (oL pStr) s96.1, none⟩) 0 (s_ret (P := (fun (r : (List Str) × (List Int)) => [⟨v1, (oL pInt) r.2, some 0⟩])) (Rp := (fun (r : (List Str) × (List Int)) => (pL pStr) r.1)) (ι := id) (rv := fun (b : Unit) => (s96.1, s96.2)) (fun _ _ _ h => h) (x_var (p := (pL pStr) s96.1) 3) (fun _ => List.Sublist.refl _)))))))) (by unfold M_l_names; rfl)
end
end My
end
section
set_option maxHeartbeats 4000000
set_option synthInstance.maxSize 2000
namespace My
open PySem PySem.Spec PyProof.Rows L2 L3
section
variable {P : Program} {w : World} {K : PySem.W.Frag} {mg : Str → Option Value} {base : Heap}
theorem sc_l_pool : FnScope ["_law_stream_here", "_law_count", "_law_pool_here", "_law_k", "_law_scale", "_law_value"] ["_law_stream_here", "_law_count"] (defScope (top 36)) := ⟨rfl, rfl, rfl, by decide +kernel, rfl, by decide +kernel, by decide +kernel⟩
theorem ok_l_pool {f : Addr} {fd : FuncData} (C : Ev P K mg) (FD : FnP K "_law_pool" (top 36) f fd)   : FnOk P w K mg base CX0 2 f fd ["_law_stream_here", "_law_count"] (Sp_OF_o (oL pInt) pInt M_l_pool (oL pInt)) := by
  have m_range := C.m_range
  obtain ⟨f_l_next, fd_l_next, F_l_next, g_l_next⟩ := C.f_l_next
  have k_l_next := ok_l_next (P := P) (w := w) (base := base) C F_l_next
  have b_l_next : Binds K fd_l_next ["_law_stream_here", "_law_size"] [] := F_l_next.bindsN fun _ _ _ _ _ _ us hl => match us, hl with | [_, _], _ => rfl
  refine fn_OF_o FD sc_l_pool rfl fun cdv A outer s H E hr v1 G1 a1 a2 => ?_
  exact s_is (s_T (T := (M_l_next a1 (9 : Int)).bind fun r108 => (some ([((r108.1) - (4 : Int))] : List Int)).bind fun x109 => grd (rg (a2 - (1 : Int)) = true) ((forS (rngL 0 (a2 - (1 : Int)).toNat) ((x109, r108.2) : (List Int) × (List Int)) fun x115 s114 => (atI (s114.1) x115).bind fun x126 => (M_l_next (s114.2) (4 : Int)).bind fun r127 => grd (dv (3 : Int) = true) (grd ((sm (2 : Int) || sm ((r127.1) / (3 : Int))) = true) (grd ((s114.1).length < sizeLine) (some (((s114.1) ++ [((x126 + (1 : Int)) + ((2 : Int) * ((r127.1) / (3 : Int))))]), r127.2))))).bind fun s116 => (M_l_next (s116.2) (8 : Int)).bind fun r117 => (atI ([(1 : Int), (1 : Int), (1 : Int), (1 : Int), (1 : Int), (1 : Int), (7 : Int), ((10 : Int) ^ (9 : Int).toNat)]) (r117.1)).bind fun x118 => (some (x118 : Int)).bind fun x119 => (compM (s116.1) () (fun x122 s123 => if true = true then grd ((sm x122 || sm x119) = true) (some (some (x122 * x119), ())) else some (none, ()))).bind fun r125 => some (r125.1, r117.2))) (s_letO (i := 2) (oL pInt) sc_l_pool.nd (o_kd (E := fun (b_ : ((((Unit × Unit) × (Int × (List Int))) × Unit) × Unit)) => (oL pInt) ([((b_.1.1.2.1) - (4 : Int))])) (x_disp pInt (fun _ => [_]) (a_cons (x_kd (E := fun (b_ : (((Unit × Unit) × (Int × (List Int))) × Unit)) => pInt ((b_.1.2.1) - (4 : Int))) (x_sub (x_kd (E := fun (b_ : ((Unit × Unit) × (Int × (List Int)))) => pInt b_.2.1) (x_OF_f (kk := 1) (E1 := (oL pInt)) (E2 := pInt) (s1 := fun (_ : Unit) (_ : Unit) => a1) (v1 := v1) k_l_next (hr.mono (by decide)) g_l_next F_l_next.kp b_l_next 0 (x_var (p := pV v1) 0) (fun _ => x_int (i := 9)) (fun _ _ => rfl))) (fun _ => x_int (i := 4)))) (fun _ => a_nil)) (fun _ => rfl) (fun _ => by simp))) fun (b110 : ((((Unit × Unit) × (Int × (List Int))) × Unit) × Unit)) x109 v112 => s_T (T := grd (rg (a2 - (1 : Int)) = true) ((forS (rngL 0 (a2 - (1 : Int)).toNat) ((x109, b110.1.1.2.2) : (List Int) × (List Int)) fun x115 s114 => (atI (s114.1) x115).bind fun x126 => (M_l_next (s114.2) (4 : Int)).bind fun r127 => grd (dv (3 : Int) = true) (grd ((sm (2 : Int) || sm ((r127.1) / (3 : Int))) = true) (grd ((s114.1).length < sizeLine) (some (((s114.1) ++ [((x126 + (1 : Int)) + ((2 : Int) * ((r127.1) / (3 : Int))))]), r127.2))))).bind fun s116 => (M_l_next (s116.2) (8 : Int)).bind fun r117 => (atI ([(1 : Int), (1 : Int), (1 : Int), (1 : Int), (1 : Int), (1 : Int), (7 : Int), ((10 : Int) ^ (9 : Int).toNat)]) (r117.1)).bind fun x118 => (some (x118 : Int)).bind fun x119 => (compM (s116.1) () (fun x122 s123 => if true = true then grd ((sm x122 || sm x119) = true) (some (some (x122 * x119), ())) else some (none, ()))).bind fun r125 => some (r125.1, r117.2))) (s_forS PassesOwn.never (fun (b_ : (Unit × Unit)) (s_ : (List Int) × (List Int)) => ([some (pV v1), some (pInt a2), some (pV v112), none, none, none], [⟨v112, (oL pInt) s_.1, none⟩, ⟨v1, (oL pInt) s_.2, some 0⟩])) (fun (b_ : (Unit × Unit)) => (x109, b110.1.1.2.2)) (i_rng1 m_range (x_kd (E := fun (b_ : (Unit × Unit)) => pInt (a2 - (1 : Int))) (x_sub (x_var (p := pInt a2) 1) (fun _ => x_int (i := 1))))) (pg_name (i := 3) sc_l_pool.nd rfl (by first | exact .inl rfl | exact .inr rfl)) (tg_name 3) (fun _ => ⟨rfl, rfl, rfl, trivial⟩) (fun _ => List.Sublist.refl _) (fun b113 x115 s114 => s_T (T := (atI (s114.1) x115).bind fun x126 => (M_l_next (s114.2) (4 : Int)).bind fun r127 => grd (dv (3 : Int) = true) (grd ((sm (2 : Int) || sm ((r127.1) / (3 : Int))) = true) (grd ((s114.1).length < sizeLine) (some (((s114.1) ++ [((x126 + (1 : Int)) + ((2 : Int) * ((r127.1) / (3 : Int))))]), r127.2))))) (s_expr (x_app 0 (x_var (p := pV v112) 2) (fun _ => x_kd (E := fun (b_ : ((((Unit × Unit) × Int) × Unit) × (Unit × (((Unit × Unit) × (Int × (List Int))) × Unit)))) => pInt ((b_.1.1.2 + (1 : Int)) + ((2 : Int) * ((b_.2.2.1.2.1) / (3 : Int))))) (x_add (x_kd (E := fun (b_ : (((Unit × Unit) × Int) × Unit)) => pInt (b_.1.2 + (1 : Int))) (x_add (x_kd (E := fun (b_ : ((Unit × Unit) × Int)) => pInt b_.2) (x_ixL (Ee := pInt) (x_var (p := pV v112) 2) (fun _ => x_var (p := pInt x115) 3) (fun _ _ => rdO 0))) (fun _ => x_int (i := 1)))) (fun _ => x_kd (E := fun (b_ : (Unit × (((Unit × Unit) × (Int × (List Int))) × Unit))) => pInt ((2 : Int) * ((b_.2.1.2.1) / (3 : Int)))) (x_mul (x_int (i := 2)) (fun _ => x_kd (E := fun (b_ : (((Unit × Unit) × (Int × (List Int))) × Unit)) => pInt ((b_.1.2.1) / (3 : Int))) (x_fdiv (x_kd (E := fun (b_ : ((Unit × Unit) × (Int × (List Int)))) => pInt b_.2.1) (x_OF_f (kk := 1) (E1 := (oL pInt)) (E2 := pInt) (s1 := fun (_ : Unit) (_ : Unit) => s114.2) (v1 := v1) k_l_next (hr.mono (by decide)) g_l_next F_l_next.kp b_l_next 1 (x_var (p := pV v1) 0) (fun _ => x_int (i := 4)) (fun _ _ => rfl))) (fun _ => x_int (i := 3)))))))) (fun _ => rfl) (fun _ _ => rfl)) fun (b128 : (Unit × ((((Unit × Unit) × Int) × Unit) × (Unit × (((Unit × Unit) × (Int × (List Int))) × Unit))))) => s_end (((s114.1) ++ [((b128.2.1.1.2 + (1 : Int)) + ((2 : Int) * ((b128.2.2.2.1.2.1) / (3 : Int))))]), b128.2.2.2.1.2.2) rfl ⟨rfl, rfl, rfl, trivial⟩ (List.Sublist.refl _))) fun b113 s116 => s_frz (i := 2) (c := ⟨v112, (oL pInt) s116.1, none⟩) 0 (s_T (T := (M_l_next (s116.2) (8 : Int)).bind fun r117 => (atI ([(1 : Int), (1 : Int), (1 : Int), (1 : Int), (1 : Int), (1 : Int), (7 : Int), ((10 : Int) ^ (9 : Int).toNat)]) (r117.1)).bind fun x118 => (some (x118 : Int)).bind fun x119 => (compM (s116.1) () (fun x122 s123 => if true = true then grd ((sm x122 || sm x119) = true) (some (some (x122 * x119), ())) else some (none, ()))).bind fun r125 => some (r125.1, r117.2)) (s_let (i := 4) pInt sc_l_pool.nd (x_kd (E := fun (b_ : (((Unit × (Unit × (Unit × (Unit × (Unit × (Unit × (Unit × ((Unit × Unit) × Unit)))))))) × ((Unit × Unit) × (Int × (List Int)))) × Int)) => pInt b_.2) (x_ixL (Ee := pInt) (x_kd (E := fun (b_ : (Unit × (Unit × (Unit × (Unit × (Unit × (Unit × (Unit × ((Unit × Unit) × Unit))))))))) => (pL pInt) ([(1 : Int), (1 : Int), (1 : Int), (1 : Int), (1 : Int), (1 : Int), (7 : Int), ((10 : Int) ^ (9 : Int).toNat)])) (x_frz (o_kd (E := fun (b_ : (Unit × (Unit × (Unit × (Unit × (Unit × (Unit × (Unit × ((Unit × Unit) × Unit))))))))) => (oL pInt) ([(1 : Int), (1 : Int), (1 : Int), (1 : Int), (1 : Int), (1 : Int), (7 : Int), ((10 : Int) ^ (9 : Int).toNat)])) (x_disp pInt (fun _ => [_, _, _, _, _, _, _, _]) (a_cons (x_int (i := 1)) (fun _ => a_cons (x_int (i := 1)) (fun _ => a_cons (x_int (i := 1)) (fun _ => a_cons (x_int (i := 1)) (fun _ => a_cons (x_int (i := 1)) (fun _ => a_cons (x_int (i := 1)) (fun _ => a_cons (x_int (i := 7)) (fun _ => a_cons (x_kd (E := fun (b_ : (Unit × Unit)) => pInt ((10 : Int) ^ (9 : Int).toNat)) (x_pow (x_int (i := 10)) (fun _ => x_int (i := 9)) (fun _ _ => by decide))) (fun _ => a_nil))))))))) (fun _ => rfl) (fun _ => by simp))))) (fun _ => x_kd (E := fun (b_ : ((Unit × Unit) × (Int × (List Int)))) => pInt b_.2.1) (x_OF_f (kk := 1) (E1 := (oL pInt)) (E2 := pInt) (s1 := fun (_ : Unit) (_ : Unit) => s116.2) (v1 := v1) k_l_next (hr.mono (by decide)) g_l_next F_l_next.kp b_l_next 0 (x_var (p := pV v1) 0) (fun _ => x_int (i := 8)) (fun _ _ => rfl))) (fun _ _ => rdF))) fun (b120 : (((Unit × (Unit × (Unit × (Unit × (Unit × (Unit × (Unit × ((Unit × Unit) × Unit)))))))) × ((Unit × Unit) × (Int × (List Int)))) × Int)) x119 => s_T (T := (compM (s116.1) () (fun x122 s123 => if true = true then grd ((sm x122 || sm x119) = true) (some (some (x122 * x119), ())) else some (none, ()))).bind fun r125 => some (r125.1, b120.1.2.2.2)) (s_retO (P := (fun (r : (List Int) × (List Int)) => [⟨v1, (oL pInt) r.2, some 0⟩])) (Ro := (fun (r : (List Int) × (List Int)) => (oL pInt) r.1)) (ι := id) (rv := fun (b : (Unit × ((List Int) × Unit))) => (b.2.1, b120.1.2.2.2)) (fun _ _ _ h => h) (o_kd (o_kd (E := fun (b_ : (Unit × ((List Int) × Unit))) => (oL pInt) b_.2.1) (x_lc (own := [("_law_value", 5)]) (C := fun (b_ : Unit) (s_ : Unit) => [⟨v1, (oL pInt) b120.1.2.2.2, some 0⟩]) (s0 := fun (b_ : Unit) => ()) (s2 := fun (b_ : Unit) (x_ : Int) (s_ : Unit) (c_ : Unit) => ()) (s3 := fun (b_ : Unit) (x_ : Int) (s_ : Unit) (c_ : Unit) (d_ : (Unit × Unit)) => ()) (Ex := pInt) (Ee := pInt) (δ := Int) (y := fun (b_ : Unit) (x_ : Int) (s_ : Unit) (c_ : Unit) (d_ : (Unit × Unit)) => (x_ * x119)) (T2 := fun (b_ : Unit) (x_ : Int) (s_ : Unit) (c_ : Unit) => grd ((sm x_ || sm x119) = true) (some (some (x_ * x119), ()))) (c := fun (b_ : Unit) (x_ : Int) (s_ : Unit) (c_ : Unit) => true) (f := fun (b_ : Unit) (x_ : Int) (s_ : Unit) => if true = true then grd ((sm x_ || sm x119) = true) (some (some (x_ * x119), ())) else some (none, ())) sc_l_pool.nd (i_list (x_var (p := (pL pInt) s116.1) 2)) (blkOk_by (own := [("_law_value", 5)]) (N := ["_law_stream_here", "_law_count", "_law_pool_here", "_law_k", "_law_scale", "_law_value"]) (sc := (defScope (top 36))) (by decide +kernel)) (fun _ _ _ _ _ => pg_name (i := 5) sc_l_pool.nd rfl (by first | exact .inl rfl | exact .inr rfl)) (tw_name 5) (fun _ => rfl) (by exact fun q124 _ _ _ _ _ b121 x122 s123 => pts_T) (by exact fun q124 _ _ _ _ _ b121 x122 s123 _ => x_out (x_kd (E := fun (b_ : (Unit × Unit)) => pInt (x122 * x119)) (x_mul (x_var (p := pInt x122) 5) (fun _ => x_var (p := pInt x119) 4))))))) (fun _ => List.Sublist.refl _))))))) (by unfold M_l_pool; rfl)
end
end My
end
section
set_option maxHeartbeats 4000000
set_option synthInstance.maxSize 2000
namespace My
open PySem PySem.Spec PyProof.Rows L2 L3
section
variable {P : Program} {w : World} {K : PySem.W.Frag} {mg : Str → Option Value} {base : Heap}
theorem sc_l_domains : FnScope ["_law_stream_here", "_law_names_here", "_law_pool_here", "_law_most", "_law_domains_here", "_law_name", "_law_side", "_law_value"] ["_law_stream_here", "_law_names_here", "_law_pool_here", "_law_most"] (defScope (top 37)) := ⟨rfl, rfl, rfl, by decide +kernel, rfl, by decide +kernel, by decide +kernel⟩
theorem ok_l_domains {f : Addr} {fd : FuncData} (C : Ev P K mg) (FD : FnP K "_law_domains" (top 37) f fd)   : FnOk P w K mg base CX0 2 f fd ["_law_stream_here", "_law_names_here", "_law_pool_here", "_law_most"] (Sp_OFFF_o (oL pInt) (pL pStr) (pL pInt) pInt M_l_domains (oL (pT2 pStr (pL pInt)))) := by
  have m_int := C.m_int
  have m_len := C.m_len
  obtain ⟨f_l_next, fd_l_next, F_l_next, g_l_next⟩ := C.f_l_next
  have k_l_next := ok_l_next (P := P) (w := w) (base := base) C F_l_next
  have b_l_next : Binds K fd_l_next ["_law_stream_here", "_law_size"] [] := F_l_next.bindsN fun _ _ _ _ _ _ us hl => match us, hl with | [_, _], _ => rfl
  refine fn_OFFF_o FD sc_l_domains rfl fun cdv A outer s H E hr v1 G1 a1 a2 a3 a4 => ?_
  exact s_is (s_T (T := (some ([] : List (Str × List Int))).bind fun x129 => (forS a2 ((x129, a1) : (List (Str × List Int)) × (List Int)) fun x135 s134 => (compM a3 (s134.2) (fun x139 s141 => (M_l_next s141 (4 : Int)).bind fun r143 => if (decide ((0 : Int) < (r143.1))) = true then some (some x139, r143.2) else some (none, r143.2))).bind fun r144 => (some ((cutL (r144.1) none (some a4)) : List Int)).bind fun x145 => (if (decide ((x145.length : Int) = (0 : Int))) = true then (M_l_next (r144.2) (a3.length : Int)).bind fun r151 => (atI a3 (r151.1)).bind fun x152 => (some ([x152] : List Int)).bind fun x153 => some (x153, r151.2) else some (x145, r144.2)).bind fun s148 => (M_l_next (s148.2) (60 : Int)).bind fun r149 => grd ((sm ((s148.1).length : Int) || sm (if (!decide ((r149.1) = (7 : Int))) then 1 else 0 : Int)) = true) (grd ((s134.1).length < sizeLine) (some (((s134.1) ++ [(x135, (cutL (s148.1) none (some (((s148.1).length : Int) * (if (!decide ((r149.1) = (7 : Int))) then 1 else 0 : Int)))))]), r149.2)))).bind fun s136 => some (s136.1, s136.2)) (s_letO (i := 4) (oL (pT2 pStr (pL pInt))) sc_l_domains.nd (o_kd (E := fun (b_ : Unit) => (oL (pT2 pStr (pL pInt))) ([])) (x_nil (pT2 pStr (pL pInt)))) fun (b130 : Unit) x129 v132 => s_T (T := (forS a2 ((x129, a1) : (List (Str × List Int)) × (List Int)) fun x135 s134 => (compM a3 (s134.2) (fun x139 s141 => (M_l_next s141 (4 : Int)).bind fun r143 => if (decide ((0 : Int) < (r143.1))) = true then some (some x139, r143.2) else some (none, r143.2))).bind fun r144 => (some ((cutL (r144.1) none (some a4)) : List Int)).bind fun x145 => (if (decide ((x145.length : Int) = (0 : Int))) = true then (M_l_next (r144.2) (a3.length : Int)).bind fun r151 => (atI a3 (r151.1)).bind fun x152 => (some ([x152] : List Int)).bind fun x153 => some (x153, r151.2) else some (x145, r144.2)).bind fun s148 => (M_l_next (s148.2) (60 : Int)).bind fun r149 => grd ((sm ((s148.1).length : Int) || sm (if (!decide ((r149.1) = (7 : Int))) then 1 else 0 : Int)) = true) (grd ((s134.1).length < sizeLine) (some (((s134.1) ++ [(x135, (cutL (s148.1) none (some (((s148.1).length : Int) * (if (!decide ((r149.1) = (7 : Int))) then 1 else 0 : Int)))))]), r149.2)))).bind fun s136 => some (s136.1, s136.2)) (s_forS PassesOwn.never (fun (b_ : Unit) (s_ : (List (Str × List Int)) × (List Int)) => ([some (pV v1), some ((pL pStr) a2), some ((pL pInt) a3), some (pInt a4), some (pV v132), none, none, none], [⟨v132, (oL (pT2 pStr (pL pInt))) s_.1, none⟩, ⟨v1, (oL pInt) s_.2, some 0⟩])) (fun (b_ : Unit) => (x129, a1)) (i_list (x_var (p := (pL pStr) a2) 1)) (pg_name (i := 5) sc_l_domains.nd rfl (by first | exact .inl rfl | exact .inr rfl)) (tg_name 5) (fun _ => ⟨rfl, rfl, rfl, rfl, rfl, trivial⟩) (fun _ => List.Sublist.refl _) (fun b133 x135 s134 => s_T (T := (compM a3 (s134.2) (fun x139 s141 => (M_l_next s141 (4 : Int)).bind fun r143 => if (decide ((0 : Int) < (r143.1))) = true then some (some x139, r143.2) else some (none, r143.2))).bind fun r144 => (some ((cutL (r144.1) none (some a4)) : List Int)).bind fun x145 => (if (decide ((x145.length : Int) = (0 : Int))) = true then (M_l_next (r144.2) (a3.length : Int)).bind fun r151 => (atI a3 (r151.1)).bind fun x152 => (some ([x152] : List Int)).bind fun x153 => some (x153, r151.2) else some (x145, r144.2)).bind fun s148 => (M_l_next (s148.2) (60 : Int)).bind fun r149 => grd ((sm ((s148.1).length : Int) || sm (if (!decide ((r149.1) = (7 : Int))) then 1 else 0 : Int)) = true) (grd ((s134.1).length < sizeLine) (some (((s134.1) ++ [(x135, (cutL (s148.1) none (some (((s148.1).length : Int) * (if (!decide ((r149.1) = (7 : Int))) then 1 else 0 : Int)))))]), r149.2)))) (s_let (i := 6) (pL pInt) sc_l_domains.nd (x_kd (E := fun (b_ : ((Unit × ((List Int) × (List Int))) × (Unit × Unit))) => (pL pInt) (cutL (b_.1.2.1) none (some a4))) (x_frz (o_kd (E := fun (b_ : ((Unit × ((List Int) × (List Int))) × (Unit × Unit))) => (oL pInt) (cutL (b_.1.2.1) none (some a4))) (x_slL (Ee := pInt) (x_kd (E := fun (b_ : (Unit × ((List Int) × (List Int)))) => (pL pInt) b_.2.1) (x_frz (o_kd (E := fun (b_ : (Unit × ((List Int) × (List Int)))) => (oL pInt) b_.2.1) (x_lc (own := [("_law_value", 7)]) (C := fun (b_ : Unit) (s_ : (List Int)) => [⟨v132, (oL (pT2 pStr (pL pInt))) s134.1, none⟩, ⟨v1, (oL pInt) s_, some 0⟩]) (s0 := fun (b_ : Unit) => s134.2) (s2 := fun (b_ : Unit) (x_ : Int) (s_ : (List Int)) (c_ : (((Unit × Unit) × (Int × (List Int))) × Unit)) => c_.1.2.2) (s3 := fun (b_ : Unit) (x_ : Int) (s_ : (List Int)) (c_ : (((Unit × Unit) × (Int × (List Int))) × Unit)) (d_ : Unit) => c_.1.2.2) (Ex := pInt) (Ee := pInt) (δ := Int) (y := fun (b_ : Unit) (x_ : Int) (s_ : (List Int)) (c_ : (((Unit × Unit) × (Int × (List Int))) × Unit)) (d_ : Unit) => x_) (T2 := fun (b_ : Unit) (x_ : Int) (s_ : (List Int)) (c_ : (((Unit × Unit) × (Int × (List Int))) × Unit)) => some (some x_, c_.1.2.2)) (c := fun (b_ : Unit) (x_ : Int) (s_ : (List Int)) (c_ : (((Unit × Unit) × (Int × (List Int))) × Unit)) => (decide ((0 : Int) < (c_.1.2.1)))) (f := fun (b_ : Unit) (x_ : Int) (s_ : (List Int)) => (M_l_next s_ (4 : Int)).bind fun r143 => if (decide ((0 : Int) < (r143.1))) = true then some (some x_, r143.2) else some (none, r143.2)) sc_l_domains.nd (i_list (x_var (p := (pL pInt) a3) 2)) (blkOk_by (own := [("_law_value", 7)]) (N := ["_law_stream_here", "_law_names_here", "_law_pool_here", "_law_most", "_law_domains_here", "_law_name", "_law_side", "_law_value"]) (sc := (defScope (top 37))) (by decide +kernel)) (fun _ _ _ _ _ => pg_name (i := 7) sc_l_domains.nd rfl (by first | exact .inl rfl | exact .inr rfl)) (tw_name 7) (fun _ => rfl) (by exact fun q142 _ _ _ _ _ b138 x139 s141 => t_out (pts_one (t_kd (c := fun (b_ : (((Unit × Unit) × (Int × (List Int))) × Unit)) => (decide ((0 : Int) < (b_.1.2.1)))) (t_gt (x_kd (E := fun (b_ : ((Unit × Unit) × (Int × (List Int)))) => pInt b_.2.1) (x_OF_f (kk := 1) (E1 := (oL pInt)) (E2 := pInt) (s1 := fun (_ : Unit) (_ : Unit) => s141) (v1 := v1) k_l_next (hr.mono (by decide)) g_l_next F_l_next.kp b_l_next 1 (x_var (p := pV v1) 0) (fun _ => x_int (i := 4)) (fun _ _ => rfl))) (fun _ => x_int (i := 0)))))) (by exact fun q142 _ _ _ _ _ b138 x139 s141 _ => x_out (x_var (p := pInt x139) 7)))))) (fun _ => p_none) (fun _ _ => p_some (i := fun (b_ : Unit) => a4) (x_var (p := pInt a4) 3)) (fun _ _ _ => rdF))))) fun (b146 : ((Unit × ((List Int) × (List Int))) × (Unit × Unit))) x145 => s_T (T := (if (decide ((x145.length : Int) = (0 : Int))) = true then (M_l_next (b146.1.2.2) (a3.length : Int)).bind fun r151 => (atI a3 (r151.1)).bind fun x152 => (some ([x152] : List Int)).bind fun x153 => some (x153, r151.2) else some (x145, b146.1.2.2)).bind fun s148 => (M_l_next (s148.2) (60 : Int)).bind fun r149 => grd ((sm ((s148.1).length : Int) || sm (if (!decide ((r149.1) = (7 : Int))) then 1 else 0 : Int)) = true) (grd ((s134.1).length < sizeLine) (some (((s134.1) ++ [(x135, (cutL (s148.1) none (some (((s148.1).length : Int) * (if (!decide ((r149.1) = (7 : Int))) then 1 else 0 : Int)))))]), r149.2)))) (s_ifN (C := fun s_ : (List Int) × (List Int) => ([some (pV v1), some ((pL pStr) a2), some ((pL pInt) a3), some (pInt a4), some (pV v132), some (pStr x135), some ((pL pInt) s_.1), none], [⟨v132, (oL (pT2 pStr (pL pInt))) s134.1, none⟩, ⟨v1, (oL pInt) s_.2, some 0⟩])) (t_kd (c := fun (b_ : (Unit × Unit)) => (decide ((x145.length : Int) = (0 : Int)))) (t_eqI (x_kd (E := fun (b_ : Unit) => pInt (x145.length : Int)) (x_lenL (Ee := pInt) m_len (x_var (p := (pL pInt) x145) 6) (fun _ => rdF))) (fun _ => x_int (i := 0)))) (fun (b147 : (Unit × Unit)) => s_T (T := (M_l_next (b146.1.2.2) (a3.length : Int)).bind fun r151 => (atI a3 (r151.1)).bind fun x152 => (some ([x152] : List Int)).bind fun x153 => some (x153, r151.2)) (s_let (i := 6) (pL pInt) sc_l_domains.nd (x_kd (E := fun (b_ : (((Unit × ((Unit × Unit) × (Int × (List Int)))) × Int) × Unit)) => (pL pInt) ([b_.1.2])) (x_frz (o_kd (E := fun (b_ : (((Unit × ((Unit × Unit) × (Int × (List Int)))) × Int) × Unit)) => (oL pInt) ([b_.1.2])) (x_disp pInt (fun _ => [_]) (a_cons (x_kd (E := fun (b_ : ((Unit × ((Unit × Unit) × (Int × (List Int)))) × Int)) => pInt b_.2) (x_ixL (Ee := pInt) (x_var (p := (pL pInt) a3) 2) (fun _ => x_kd (E := fun (b_ : ((Unit × Unit) × (Int × (List Int)))) => pInt b_.2.1) (x_OF_f (kk := 1) (E1 := (oL pInt)) (E2 := pInt) (s1 := fun (_ : Unit) (_ : Unit) => b146.1.2.2) (v1 := v1) k_l_next (hr.mono (by decide)) g_l_next F_l_next.kp b_l_next 1 (x_var (p := pV v1) 0) (fun _ => x_kd (E := fun (b_ : Unit) => pInt (a3.length : Int)) (x_lenL (Ee := pInt) m_len (x_var (p := (pL pInt) a3) 2) (fun _ => rdF))) (fun _ _ => rfl))) (fun _ _ => rdF))) (fun _ => a_nil)) (fun _ => rfl) (fun _ => by simp))))) fun (b154 : (((Unit × ((Unit × Unit) × (Int × (List Int)))) × Int) × Unit)) x153 => s_end (x153, b154.1.1.2.2.2) rfl ⟨rfl, rfl, rfl, rfl, rfl, rfl, rfl, trivial⟩ (List.Sublist.refl _))) (fun (b147 : (Unit × Unit)) => s_end (x145, b146.1.2.2) rfl ⟨rfl, rfl, rfl, rfl, rfl, rfl, rfl, trivial⟩ (List.Sublist.refl _)) fun (b147 : (Unit × Unit)) s148 => s_T (T := (M_l_next (s148.2) (60 : Int)).bind fun r149 => grd ((sm ((s148.1).length : Int) || sm (if (!decide ((r149.1) = (7 : Int))) then 1 else 0 : Int)) = true) (grd ((s134.1).length < sizeLine) (some (((s134.1) ++ [(x135, (cutL (s148.1) none (some (((s148.1).length : Int) * (if (!decide ((r149.1) = (7 : Int))) then 1 else 0 : Int)))))]), r149.2)))) (s_expr (x_app 0 (x_var (p := pV v132) 4) (fun _ => x_kd (E := fun (b_ : (Unit × ((Unit × (Unit × (Unit × (((Unit × Unit) × (Int × (List Int))) × Unit)))) × Unit))) => (pT2 pStr (pL pInt)) (x135, (cutL (s148.1) none (some (((s148.1).length : Int) * (if (!decide ((b_.2.1.2.2.2.1.2.1) = (7 : Int))) then 1 else 0 : Int)))))) (x_tup2 (a_cons (x_var (p := pStr x135) 5) (fun _ => a_cons (x_kd (E := fun (b_ : (Unit × (Unit × (Unit × (((Unit × Unit) × (Int × (List Int))) × Unit))))) => (pL pInt) (cutL (s148.1) none (some (((s148.1).length : Int) * (if (!decide ((b_.2.2.2.1.2.1) = (7 : Int))) then 1 else 0 : Int))))) (x_frz (o_kd (E := fun (b_ : (Unit × (Unit × (Unit × (((Unit × Unit) × (Int × (List Int))) × Unit))))) => (oL pInt) (cutL (s148.1) none (some (((s148.1).length : Int) * (if (!decide ((b_.2.2.2.1.2.1) = (7 : Int))) then 1 else 0 : Int))))) (x_slL (Ee := pInt) (x_var (p := (pL pInt) s148.1) 6) (fun _ => p_none) (fun _ _ => p_some (i := fun (b_ : (Unit × (((Unit × Unit) × (Int × (List Int))) × Unit))) => (((s148.1).length : Int) * (if (!decide ((b_.2.1.2.1) = (7 : Int))) then 1 else 0 : Int))) (x_kd (E := fun (b_ : (Unit × (((Unit × Unit) × (Int × (List Int))) × Unit))) => pInt (((s148.1).length : Int) * (if (!decide ((b_.2.1.2.1) = (7 : Int))) then 1 else 0 : Int))) (x_mul (x_kd (E := fun (b_ : Unit) => pInt ((s148.1).length : Int)) (x_lenL (Ee := pInt) m_len (x_var (p := (pL pInt) s148.1) 6) (fun _ => rdF))) (fun _ => x_kd (E := fun (b_ : (((Unit × Unit) × (Int × (List Int))) × Unit)) => pInt (if (!decide ((b_.1.2.1) = (7 : Int))) then 1 else 0 : Int)) (x_intB m_int (x_kd (E := fun (b_ : (((Unit × Unit) × (Int × (List Int))) × Unit)) => pBl (!decide ((b_.1.2.1) = (7 : Int)))) (x_neI (x_kd (E := fun (b_ : ((Unit × Unit) × (Int × (List Int)))) => pInt b_.2.1) (x_OF_f (kk := 1) (E1 := (oL pInt)) (E2 := pInt) (s1 := fun (_ : Unit) (_ : Unit) => s148.2) (v1 := v1) k_l_next (hr.mono (by decide)) g_l_next F_l_next.kp b_l_next 1 (x_var (p := pV v1) 0) (fun _ => x_int (i := 60)) (fun _ _ => rfl))) (fun _ => x_int (i := 7))))))))) (fun _ _ _ => rdF))))) (fun _ => a_nil))) pStr (pL pInt) (fun (b : (Unit × ((Unit × (Unit × (Unit × (((Unit × Unit) × (Int × (List Int))) × Unit)))) × Unit))) => x135) (fun (b : (Unit × ((Unit × (Unit × (Unit × (((Unit × Unit) × (Int × (List Int))) × Unit)))) × Unit))) => (cutL (s148.1) none (some (((s148.1).length : Int) * (if (!decide ((b.2.1.2.2.2.1.2.1) = (7 : Int))) then 1 else 0 : Int))))))) (fun _ => rfl) (fun _ _ => rfl)) fun (b150 : (Unit × (Unit × ((Unit × (Unit × (Unit × (((Unit × Unit) × (Int × (List Int))) × Unit)))) × Unit)))) => s_end (((s134.1) ++ [(x135, (cutL (s148.1) none (some (((s148.1).length : Int) * (if (!decide ((b150.2.2.1.2.2.2.1.2.1) = (7 : Int))) then 1 else 0 : Int)))))]), b150.2.2.1.2.2.2.1.2.2) rfl ⟨rfl, rfl, rfl, rfl, rfl, trivial⟩ (List.Sublist.refl _))))) fun b133 s136 => s_T (T := some (s136.1, s136.2)) (s_retV 0 (P := (fun (r : (List (Str × List Int)) × (List Int)) => [⟨v1, (oL pInt) r.2, some 0⟩])) (Ro := (fun (r : (List (Str × List Int)) × (List Int)) => (oL (pT2 pStr (pL pInt))) r.1)) (ι := id) (rv := fun _ => (s136.1, s136.2)) (fun _ _ _ h => h) (x_var (p := pV v132) 4) (fun _ => rfl) (fun _ => List.Sublist.refl _))))) (by unfold M_l_domains; rfl)
end
end My
end
section
set_option maxHeartbeats 4000000
set_option synthInstance.maxSize 2000
namespace My
open PySem PySem.Spec PyProof.Rows L2 L3
section
variable {P : Program} {w : World} {K : PySem.W.Frag} {mg : Str → Option Value} {base : Heap}
theorem sc_l_part : FnScope ["_law_stream_here", "_law_side", "_law_value"] ["_law_stream_here", "_law_side"] (defScope (top 38)) := ⟨rfl, rfl, rfl, by decide +kernel, rfl, by decide +kernel, by decide +kernel⟩
theorem ok_l_part {f : Addr} {fd : FuncData} (C : Ev P K mg) (FD : FnP K "_law_part" (top 38) f fd)   : FnOk P w K mg base CX0 2 f fd ["_law_stream_here", "_law_side"] (Sp_OF_o (oL pInt) (pL pInt) M_l_part (oL pInt)) := by
  obtain ⟨f_l_next, fd_l_next, F_l_next, g_l_next⟩ := C.f_l_next
  have k_l_next := ok_l_next (P := P) (w := w) (base := base) C F_l_next
  have b_l_next : Binds K fd_l_next ["_law_stream_here", "_law_size"] [] := F_l_next.bindsN fun _ _ _ _ _ _ us hl => match us, hl with | [_, _], _ => rfl
  refine fn_OF_o FD sc_l_part rfl fun cdv A outer s H E hr v1 G1 a1 a2 => ?_
  exact s_is (s_T (T := (compM a2 a1 (fun x156 s158 => (M_l_next s158 (3 : Int)).bind fun r160 => if (decide ((0 : Int) < (r160.1))) = true then some (some x156, r160.2) else some (none, r160.2))).bind fun r161 => some (r161.1, r161.2)) (s_retO (P := (fun (r : (List Int) × (List Int)) => [⟨v1, (oL pInt) r.2, some 0⟩])) (Ro := (fun (r : (List Int) × (List Int)) => (oL pInt) r.1)) (ι := id) (rv := fun (b : (Unit × ((List Int) × (List Int)))) => (b.2.1, b.2.2)) (fun _ _ _ h => h) (o_kd (o_kd (E := fun (b_ : (Unit × ((List Int) × (List Int)))) => (oL pInt) b_.2.1) (x_lc (own := [("_law_value", 2)]) (C := fun (b_ : Unit) (s_ : (List Int)) => [⟨v1, (oL pInt) s_, some 0⟩]) (s0 := fun (b_ : Unit) => a1) (s2 := fun (b_ : Unit) (x_ : Int) (s_ : (List Int)) (c_ : (((Unit × Unit) × (Int × (List Int))) × Unit)) => c_.1.2.2) (s3 := fun (b_ : Unit) (x_ : Int) (s_ : (List Int)) (c_ : (((Unit × Unit) × (Int × (List Int))) × Unit)) (d_ : Unit) => c_.1.2.2) (Ex := pInt) (Ee := pInt) (δ := Int) (y := fun (b_ : Unit) (x_ : Int) (s_ : (List Int)) (c_ : (((Unit × Unit) × (Int × (List Int))) × Unit)) (d_ : Unit) => x_) (T2 := fun (b_ : Unit) (x_ : Int) (s_ : (List Int)) (c_ : (((Unit × Unit) × (Int × (List Int))) × Unit)) => some (some x_, c_.1.2.2)) (c := fun (b_ : Unit) (x_ : Int) (s_ : (List Int)) (c_ : (((Unit × Unit) × (Int × (List Int))) × Unit)) => (decide ((0 : Int) < (c_.1.2.1)))) (f := fun (b_ : Unit) (x_ : Int) (s_ : (List Int)) => (M_l_next s_ (3 : Int)).bind fun r160 => if (decide ((0 : Int) < (r160.1))) = true then some (some x_, r160.2) else some (none, r160.2)) sc_l_part.nd (i_list (x_var (p := (pL pInt) a2) 1)) (blkOk_by (own := [("_law_value", 2)]) (N := ["_law_stream_here", "_law_side", "_law_value"]) (sc := (defScope (top 38))) (by decide +kernel)) (fun _ _ _ _ _ => pg_name (i := 2) sc_l_part.nd rfl (by first | exact .inl rfl | exact .inr rfl)) (tw_name 2) (fun _ => rfl) (by exact fun q159 _ _ _ _ _ b155 x156 s158 => t_out (pts_one (t_kd (c := fun (b_ : (((Unit × Unit) × (Int × (List Int))) × Unit)) => (decide ((0 : Int) < (b_.1.2.1)))) (t_gt (x_kd (E := fun (b_ : ((Unit × Unit) × (Int × (List Int)))) => pInt b_.2.1) (x_OF_f (kk := 1) (E1 := (oL pInt)) (E2 := pInt) (s1 := fun (_ : Unit) (_ : Unit) => s158) (v1 := v1) k_l_next (hr.mono (by decide)) g_l_next F_l_next.kp b_l_next 0 (x_var (p := pV v1) 0) (fun _ => x_int (i := 3)) (fun _ _ => rfl))) (fun _ => x_int (i := 0)))))) (by exact fun q159 _ _ _ _ _ b155 x156 s158 _ => x_out (x_var (p := pInt x156) 2))))) (fun _ => List.Sublist.refl _))) (by unfold M_l_part; rfl)
end
end My
end
section
set_option maxHeartbeats 4000000
set_option synthInstance.maxSize 2000
namespace My
open PySem PySem.Spec PyProof.Rows L2 L3
section
variable {P : Program} {w : World} {K : PySem.W.Frag} {mg : Str → Option Value} {base : Heap}
theorem sc_l_is_side : FnScope ["_law_actual", "_law_k", "_law_value"] ["_law_actual"] (defScope (top 39)) := ⟨rfl, rfl, rfl, by decide +kernel, rfl, by decide +kernel, by decide +kernel⟩
theorem ok_l_is_side {f : Addr} {fd : FuncData} (C : Ev P K mg) (FD : FnP K "_law_is_side" (top 39) f fd)   : FnOk P w K mg base CX0 2 f fd ["_law_actual"] (Sp_F_f (pL pInt) M_l_is_side pBl) := by
  have m_all := C.m_all
  have m_isinstance := C.m_isinstance
  have m_len := C.m_len
  have m_list := C.m_list
  have m_range := C.m_range
  obtain ⟨f_l_is_integer, fd_l_is_integer, F_l_is_integer, g_l_is_integer⟩ := C.f_l_is_integer
  have k_l_is_integer := ok_l_is_integer (P := P) (w := w) (base := base) C F_l_is_integer
  have b_l_is_integer : Binds K fd_l_is_integer ["_law_actual"] [] := F_l_is_integer.bindsN fun _ _ _ _ _ _ us hl => match us, hl with | [_], _ => rfl
  refine fn_F_f FD sc_l_is_side rfl fun cdv A outer s H E hr  a1 => ?_
  exact s_is (s_T (T := ((if (!true) = true then some (true, ()) else (compM a1 () (fun x170 s172 => if true = true then (M_l_is_integer x170).bind fun r174 => some (some r174, ()) else some (none, ()))).bind fun r175 => some ((!((r175.1).all id)), ()))).bind fun c176 => if c176.1 = true then some false else grd (rg ((a1.length : Int) - (1 : Int)) = true) ((compM (rngL 0 ((a1.length : Int) - (1 : Int)).toNat) () (fun x179 s182 => if true = true then (atI a1 x179).bind fun x184 => (atI a1 (x179 + (1 : Int))).bind fun x185 => some (some (decide (x184 < x185)), ()) else some (none, ()))).bind fun r186 => some ((r186.1).all id))) (s_ifT (ins_F _) (t_kd (c := fun (b_ : (Unit × (Bool × Unit))) => b_.2.1) (PW.pt (w_orM (ΔS := fun (b_ : Unit) (s_ : Unit) => []) (s1 := fun (b_ : Unit) => ()) (s2 := fun (b_ : Unit) (c_ : (Unit × ((List Bool) × Unit))) => ()) (t_kd (c := fun (b_ : Unit) => (!true)) (t_not (t_kd (c := fun (b_ : Unit) => true) (t_val (x_kd (E := fun (b_ : Unit) => pBl true) (x_isi (cn := "list") (fun _ => "list") (fun _ => true) m_isinstance m_list (x_var (p := (pL pInt) a1) 0) (fun _ => tyL) (fun _ => by decide +kernel) (by decide +kernel))))))) (fun _ => w_or1 (t_kd (c := fun (b_ : (Unit × ((List Bool) × Unit))) => (!((b_.2.1).all id))) (t_not (t_kd (c := fun (b_ : (Unit × ((List Bool) × Unit))) => ((b_.2.1).all id)) (t_val (x_kd (E := fun (b_ : (Unit × ((List Bool) × Unit))) => pBl ((b_.2.1).all id)) (x_all m_all (x_kd (E := fun (b_ : (Unit × ((List Bool) × Unit))) => (pL pBl) b_.2.1) (x_frz (o_kd (E := fun (b_ : (Unit × ((List Bool) × Unit))) => (oL pBl) b_.2.1) (x_lc (own := [("_law_value", 2)]) (C := fun (b_ : Unit) (s_ : Unit) => []) (s0 := fun (b_ : Unit) => ()) (s2 := fun (b_ : Unit) (x_ : Int) (s_ : Unit) (c_ : Unit) => ()) (s3 := fun (b_ : Unit) (x_ : Int) (s_ : Unit) (c_ : Unit) (d_ : (Unit × Bool)) => ()) (Ex := pInt) (Ee := pBl) (δ := Bool) (y := fun (b_ : Unit) (x_ : Int) (s_ : Unit) (c_ : Unit) (d_ : (Unit × Bool)) => d_.2) (T2 := fun (b_ : Unit) (x_ : Int) (s_ : Unit) (c_ : Unit) => (M_l_is_integer x_).bind fun r174 => some (some r174, ())) (c := fun (b_ : Unit) (x_ : Int) (s_ : Unit) (c_ : Unit) => true) (f := fun (b_ : Unit) (x_ : Int) (s_ : Unit) => if true = true then (M_l_is_integer x_).bind fun r174 => some (some r174, ()) else some (none, ())) sc_l_is_side.nd (i_list (x_var (p := (pL pInt) a1) 0)) (blkOk_by (own := [("_law_value", 2)]) (N := ["_law_actual", "_law_k", "_law_value"]) (sc := (defScope (top 39))) (by decide +kernel)) (fun _ _ _ _ _ => pg_name (i := 2) sc_l_is_side.nd rfl (by first | exact .inl rfl | exact .inr rfl)) (tw_name 2) (fun _ => rfl) (by exact fun q173 _ _ _ _ _ b169 x170 s172 => pts_T) (by exact fun q173 _ _ _ _ _ b169 x170 s172 _ => x_out (x_kd (E := fun (b_ : (Unit × Bool)) => pBl b_.2) (x_F_f (kk := 1) (E1 := pInt) k_l_is_integer (hr.mono (by decide)) g_l_is_integer F_l_is_integer.kp b_l_is_integer (x_var (p := pInt x170) 2)))))))) (fun _ => rdF)))))))) (fun _ => rfl) (fun _ _ => rfl)))) (fun (b177 : (Unit × (Bool × Unit))) => s_T (T := some false) (s_ret (P := (fun _ => [])) (Rp := pBl) (ι := id) (rv := fun (b : Unit) => false) (fun _ _ _ h => h) x_bl (fun _ => List.Sublist.refl _))) fun (b177 : (Unit × (Bool × Unit))) => s_T (T := grd (rg ((a1.length : Int) - (1 : Int)) = true) ((compM (rngL 0 ((a1.length : Int) - (1 : Int)).toNat) () (fun x179 s182 => if true = true then (atI a1 x179).bind fun x184 => (atI a1 (x179 + (1 : Int))).bind fun x185 => some (some (decide (x184 < x185)), ()) else some (none, ()))).bind fun r186 => some ((r186.1).all id))) (s_ret (P := (fun _ => [])) (Rp := pBl) (ι := id) (rv := fun (b : ((Unit × Unit) × ((List Bool) × Unit))) => ((b.2.1).all id)) (fun _ _ _ h => h) (x_kd (x_kd (E := fun (b_ : ((Unit × Unit) × ((List Bool) × Unit))) => pBl ((b_.2.1).all id)) (x_all m_all (x_kd (E := fun (b_ : ((Unit × Unit) × ((List Bool) × Unit))) => (pL pBl) b_.2.1) (x_frz (o_kd (E := fun (b_ : ((Unit × Unit) × ((List Bool) × Unit))) => (oL pBl) b_.2.1) (x_lc (own := [("_law_k", 1)]) (C := fun (b_ : (Unit × Unit)) (s_ : Unit) => []) (s0 := fun (b_ : (Unit × Unit)) => ()) (s2 := fun (b_ : (Unit × Unit)) (x_ : Int) (s_ : Unit) (c_ : Unit) => ()) (s3 := fun (b_ : (Unit × Unit)) (x_ : Int) (s_ : Unit) (c_ : Unit) (d_ : (((Unit × Unit) × Int) × ((Unit × (Unit × Unit)) × Int))) => ()) (Ex := pInt) (Ee := pBl) (δ := Bool) (y := fun (b_ : (Unit × Unit)) (x_ : Int) (s_ : Unit) (c_ : Unit) (d_ : (((Unit × Unit) × Int) × ((Unit × (Unit × Unit)) × Int))) => (decide (d_.1.2 < d_.2.2))) (T2 := fun (b_ : (Unit × Unit)) (x_ : Int) (s_ : Unit) (c_ : Unit) => (atI a1 x_).bind fun x184 => (atI a1 (x_ + (1 : Int))).bind fun x185 => some (some (decide (x184 < x185)), ())) (c := fun (b_ : (Unit × Unit)) (x_ : Int) (s_ : Unit) (c_ : Unit) => true) (f := fun (b_ : (Unit × Unit)) (x_ : Int) (s_ : Unit) => if true = true then (atI a1 x_).bind fun x184 => (atI a1 (x_ + (1 : Int))).bind fun x185 => some (some (decide (x184 < x185)), ()) else some (none, ())) sc_l_is_side.nd (i_rng1 m_range (x_kd (E := fun (b_ : (Unit × Unit)) => pInt ((a1.length : Int) - (1 : Int))) (x_sub (x_kd (E := fun (b_ : Unit) => pInt (a1.length : Int)) (x_lenL (Ee := pInt) m_len (x_var (p := (pL pInt) a1) 0) (fun _ => rdF))) (fun _ => x_int (i := 1))))) (blkOk_by (own := [("_law_k", 1)]) (N := ["_law_actual", "_law_k", "_law_value"]) (sc := (defScope (top 39))) (by decide +kernel)) (fun _ _ _ _ _ => pg_name (i := 1) sc_l_is_side.nd rfl (by first | exact .inl rfl | exact .inr rfl)) (tw_name 1) (fun _ => rfl) (by exact fun q183 _ _ _ _ _ b178 x179 s182 => pts_T) (by exact fun q183 _ _ _ _ _ b178 x179 s182 _ => x_out (x_kd (E := fun (b_ : (((Unit × Unit) × Int) × ((Unit × (Unit × Unit)) × Int))) => pBl (decide (b_.1.2 < b_.2.2))) (x_lt (x_kd (E := fun (b_ : ((Unit × Unit) × Int)) => pInt b_.2) (x_ixL (Ee := pInt) (x_var (p := (pL pInt) a1) 0) (fun _ => x_var (p := pInt x179) 1) (fun _ _ => rdF))) (fun _ => x_kd (E := fun (b_ : ((Unit × (Unit × Unit)) × Int)) => pInt b_.2) (x_ixL (Ee := pInt) (x_var (p := (pL pInt) a1) 0) (fun _ => x_kd (E := fun (b_ : (Unit × Unit)) => pInt (x179 + (1 : Int))) (x_add (x_var (p := pInt x179) 1) (fun _ => x_int (i := 1)))) (fun _ _ => rdF)))))))))) (fun _ => rdF)))) (fun _ => List.Sublist.refl _)))) (by unfold M_l_is_side; rfl)
end
end My
end
section
set_option maxHeartbeats 4000000
set_option synthInstance.maxSize 2000
namespace My
open PySem PySem.Spec PyProof.Rows L2 L3
section
variable {P : Program} {w : World} {K : PySem.W.Frag} {mg : Str → Option Value} {base : Heap}
theorem sc_l_same_sides : FnScope ["_law_actual", "_law_expected", "_law_found", "_law_name"] ["_law_actual", "_law_expected"] (defScope (top 40)) := ⟨rfl, rfl, rfl, by decide +kernel, rfl, by decide +kernel, by decide +kernel⟩
theorem ok_l_same_sides {f : Addr} {fd : FuncData} (C : Ev P K mg) (FD : FnP K "_law_same_sides" (top 40) f fd)   : FnOk P w K mg base CX0 3 f fd ["_law_actual", "_law_expected"] (Sp_FF_f (pM (κ := Str) (pL pInt)) (pM (κ := Str) (pL pInt)) M_l_same_sides pBl) := by
  have m_all := C.m_all
  have m_dict := C.m_dict
  have m_isinstance := C.m_isinstance
  have m_len := C.m_len
  obtain ⟨f_l_is_side, fd_l_is_side, F_l_is_side, g_l_is_side⟩ := C.f_l_is_side
  have k_l_is_side := ok_l_is_side (P := P) (w := w) (base := base) C F_l_is_side
  have b_l_is_side : Binds K fd_l_is_side ["_law_actual"] [] := F_l_is_side.bindsN fun _ _ _ _ _ _ us hl => match us, hl with | [_], _ => rfl
  refine fn_FF_f FD sc_l_same_sides rfl fun cdv A outer s H E hr  a1 a2 => ?_
  exact s_is (s_T (T := if ((!true) || (!decide ((a1.length : Int) = (a2.length : Int)))) = true then some false else (compM (a2.map Prod.fst) () (fun x189 s195 => ((if (dhas a1 x189) = true then (dget a1 x189).bind fun x199 => (M_l_is_side x199).bind fun r200 => some (r200, ()) else some (false, ()))).bind fun c201 => if c201.1 = true then some (some x189, ()) else some (none, ()))).bind fun r202 => (some (r202.1 : List Str)).bind fun x203 => ((if (decide ((x203.length : Int) = (a2.length : Int))) = true then (compM x203 () (fun x217 s220 => if true = true then (dget a1 x217).bind fun x222 => (dget a2 x217).bind fun x223 => some (some (decide (x222 = x223)), ()) else some (none, ()))).bind fun r224 => some (((r224.1).all id), ()) else some (false, ()))).bind fun c225 => some (c225.1)) (s_ifT (ins_F _) (t_kd (c := fun (b_ : Unit) => ((!true) || (!decide ((a1.length : Int) = (a2.length : Int))))) (PW.pt (w_or (t_totV (!true) () (fun _ => rfl) (by exact (t_kd (c := fun (b_ : Unit) => (!true)) (t_not (t_kd (c := fun (b_ : Unit) => true) (t_val (x_kd (E := fun (b_ : Unit) => pBl true) (x_isi (cn := "dict") (fun _ => "dict") (fun _ => true) m_isinstance m_dict (y_var (p := (pM (κ := Str) (pL pInt)) a1) 0) (fun _ => tyM) (fun _ => by decide +kernel) (by decide +kernel))))))))) (w_or1 (t_totV (!decide ((a1.length : Int) = (a2.length : Int))) ((), ()) (fun _ => rfl) (by exact (t_kd (c := fun (b_ : (Unit × Unit)) => (!decide ((a1.length : Int) = (a2.length : Int)))) (t_neI (x_kd (E := fun (b_ : Unit) => pInt (a1.length : Int)) (x_lenM (κ := Str) (Ee := (pL pInt)) m_len (y_var (p := (pM (κ := Str) (pL pInt)) a1) 0) (fun _ => rdMF))) (fun _ => x_kd (E := fun (b_ : Unit) => pInt (a2.length : Int)) (x_lenM (κ := Str) (Ee := (pL pInt)) m_len (y_var (p := (pM (κ := Str) (pL pInt)) a2) 1) (fun _ => rdMF))))))))))) (fun (b187 : Unit) => s_T (T := some false) (s_ret (P := (fun _ => [])) (Rp := pBl) (ι := id) (rv := fun (b : Unit) => false) (fun _ _ _ h => h) x_bl (fun _ => List.Sublist.refl _))) fun (b187 : Unit) => s_T (T := (compM (a2.map Prod.fst) () (fun x189 s195 => ((if (dhas a1 x189) = true then (dget a1 x189).bind fun x199 => (M_l_is_side x199).bind fun r200 => some (r200, ()) else some (false, ()))).bind fun c201 => if c201.1 = true then some (some x189, ()) else some (none, ()))).bind fun r202 => (some (r202.1 : List Str)).bind fun x203 => ((if (decide ((x203.length : Int) = (a2.length : Int))) = true then (compM x203 () (fun x217 s220 => if true = true then (dget a1 x217).bind fun x222 => (dget a2 x217).bind fun x223 => some (some (decide (x222 = x223)), ()) else some (none, ()))).bind fun r224 => some (((r224.1).all id), ()) else some (false, ()))).bind fun c225 => some (c225.1)) (s_letOA (i := 2) (oL pStr) (a_lc (i := 2) (own := [("_law_name", 3)]) (C := fun (b_ : Unit) (s_ : Unit) => []) (s0 := fun (b_ : Unit) => ()) (s2 := fun (b_ : Unit) (x_ : Str) (s_ : Unit) (c_ : ((Unit × Unit) × (Bool × Unit))) => ()) (s3 := fun (b_ : Unit) (x_ : Str) (s_ : Unit) (c_ : ((Unit × Unit) × (Bool × Unit))) (d_ : Unit) => ()) (Ex := pStr) (Ee := pStr) (δ := Str) (y := fun (b_ : Unit) (x_ : Str) (s_ : Unit) (c_ : ((Unit × Unit) × (Bool × Unit))) (d_ : Unit) => x_) (T2 := fun (b_ : Unit) (x_ : Str) (s_ : Unit) (c_ : ((Unit × Unit) × (Bool × Unit))) => some (some x_, ())) (c := fun (b_ : Unit) (x_ : Str) (s_ : Unit) (c_ : ((Unit × Unit) × (Bool × Unit))) => c_.2.1) (f := fun (b_ : Unit) (x_ : Str) (s_ : Unit) => ((if (dhas a1 x_) = true then (dget a1 x_).bind fun x199 => (M_l_is_side x199).bind fun r200 => some (r200, ()) else some (false, ()))).bind fun c201 => if c201.1 = true then some (some x_, ()) else some (none, ())) sc_l_same_sides.nd (i_mkeys (κ := Str) (x_var (p := (pM (κ := Str) (pL pInt)) a2) 1)) (blkOk_by (own := [("_law_name", 3)]) (N := ["_law_actual", "_law_expected", "_law_found", "_law_name"]) (sc := (defScope (top 40))) (by decide +kernel)) (fun _ _ _ _ _ => pg_name (i := 3) sc_l_same_sides.nd rfl (by first | exact .inl rfl | exact .inr rfl)) (tw_name 3) (fun _ => rfl) (by exact fun q196 _ _ _ _ _ b188 x189 s195 => t_out (pts_one (t_kd (c := fun (b_ : ((Unit × Unit) × (Bool × Unit))) => b_.2.1) (PW.pt (w_andM (ΔS := fun (b_ : (Unit × Unit)) (s_ : Unit) => [] ++ [q196]) (s1 := fun (b_ : (Unit × Unit)) => ()) (s2 := fun (b_ : (Unit × Unit)) (c_ : (((Unit × Unit) × (List Int)) × Bool)) => ()) (t_kd (c := fun (b_ : (Unit × Unit)) => (dhas a1 x189)) (t_din (κ := Str) (Ee := (pL pInt)) hr.units (x_var (p := pStr x189) 3) (fun _ => x_var (p := (pM (κ := Str) (pL pInt)) a1) 0) (fun _ _ => rdMF))) (fun _ => w_and1 (t_kd (c := fun (b_ : (((Unit × Unit) × (List Int)) × Bool)) => b_.2) (t_val (x_kd (E := fun (b_ : (((Unit × Unit) × (List Int)) × Bool)) => pBl b_.2) (x_F_f (kk := 2) (E1 := (pL pInt)) k_l_is_side (hr.mono (by decide)) g_l_is_side F_l_is_side.kp b_l_is_side (x_kd (E := fun (b_ : ((Unit × Unit) × (List Int))) => (pL pInt) b_.2) (x_dget (κ := Str) (Ee := (pL pInt)) hr.units (x_var (p := (pM (κ := Str) (pL pInt)) a1) 0) (fun _ => x_var (p := pStr x189) 3) (fun _ _ => rdMF)))))))) (fun _ => rfl) (fun _ _ => rfl)))))) (by exact fun q196 _ _ _ _ _ b188 x189 s195 _ => x_out (x_var (p := pStr x189) 3)) (sw_true rfl rfl rfl (by decide +kernel))) fun (b204 : (Unit × ((List Str) × Unit))) x203 v206 => s_frz (i := 2) (c := ⟨v206, (oL pStr) x203, none⟩) 0 (s_T (T := ((if (decide ((x203.length : Int) = (a2.length : Int))) = true then (compM x203 () (fun x217 s220 => if true = true then (dget a1 x217).bind fun x222 => (dget a2 x217).bind fun x223 => some (some (decide (x222 = x223)), ()) else some (none, ()))).bind fun r224 => some (((r224.1).all id), ()) else some (false, ()))).bind fun c225 => some (c225.1)) (s_ret (P := (fun _ => [])) (Rp := pBl) (ι := id) (rv := fun (b : ((Unit × Unit) × (Bool × Unit))) => b.2.1) (fun _ _ _ h => h) (x_kd (x_kd (E := fun (b_ : ((Unit × Unit) × (Bool × Unit))) => pBl b_.2.1) (v_andM (ΔS := fun (b_ : (Unit × Unit)) (s_ : Unit) => []) (s1 := fun (b_ : (Unit × Unit)) => ()) (s2 := fun (b_ : (Unit × Unit)) (c_ : (Unit × ((List Bool) × Unit))) => ()) (x_kd (E := fun (b_ : (Unit × Unit)) => pBl (decide ((x203.length : Int) = (a2.length : Int)))) (x_eqI (x_kd (E := fun (b_ : Unit) => pInt (x203.length : Int)) (x_lenL (Ee := pStr) m_len (x_var (p := (pL pStr) x203) 2) (fun _ => rdF))) (fun _ => x_kd (E := fun (b_ : Unit) => pInt (a2.length : Int)) (x_lenM (κ := Str) (Ee := (pL pInt)) m_len (x_var (p := (pM (κ := Str) (pL pInt)) a2) 1) (fun _ => rdMF))))) (fun _ => v_one (x_kd (E := fun (b_ : (Unit × ((List Bool) × Unit))) => pBl ((b_.2.1).all id)) (x_all m_all (x_kd (E := fun (b_ : (Unit × ((List Bool) × Unit))) => (pL pBl) b_.2.1) (x_frz (o_kd (E := fun (b_ : (Unit × ((List Bool) × Unit))) => (oL pBl) b_.2.1) (x_lc (own := [("_law_name", 3)]) (C := fun (b_ : Unit) (s_ : Unit) => []) (s0 := fun (b_ : Unit) => ()) (s2 := fun (b_ : Unit) (x_ : Str) (s_ : Unit) (c_ : Unit) => ()) (s3 := fun (b_ : Unit) (x_ : Str) (s_ : Unit) (c_ : Unit) (d_ : (((Unit × Unit) × (List Int)) × ((Unit × Unit) × (List Int)))) => ()) (Ex := pStr) (Ee := pBl) (δ := Bool) (y := fun (b_ : Unit) (x_ : Str) (s_ : Unit) (c_ : Unit) (d_ : (((Unit × Unit) × (List Int)) × ((Unit × Unit) × (List Int)))) => (decide (d_.1.2 = d_.2.2))) (T2 := fun (b_ : Unit) (x_ : Str) (s_ : Unit) (c_ : Unit) => (dget a1 x_).bind fun x222 => (dget a2 x_).bind fun x223 => some (some (decide (x222 = x223)), ())) (c := fun (b_ : Unit) (x_ : Str) (s_ : Unit) (c_ : Unit) => true) (f := fun (b_ : Unit) (x_ : Str) (s_ : Unit) => if true = true then (dget a1 x_).bind fun x222 => (dget a2 x_).bind fun x223 => some (some (decide (x222 = x223)), ()) else some (none, ())) sc_l_same_sides.nd (i_list (x_var (p := (pL pStr) x203) 2)) (blkOk_by (own := [("_law_name", 3)]) (N := ["_law_actual", "_law_expected", "_law_found", "_law_name"]) (sc := (defScope (top 40))) (by decide +kernel)) (fun _ _ _ _ _ => pg_name (i := 3) sc_l_same_sides.nd rfl (by first | exact .inl rfl | exact .inr rfl)) (tw_name 3) (fun _ => rfl) (by exact fun q221 _ _ _ _ _ b216 x217 s220 => pts_T) (by exact fun q221 _ _ _ _ _ b216 x217 s220 _ => x_out (x_kd (E := fun (b_ : (((Unit × Unit) × (List Int)) × ((Unit × Unit) × (List Int)))) => pBl (decide (b_.1.2 = b_.2.2))) (x_eqL hr.units dtInt (x_kd (E := fun (b_ : ((Unit × Unit) × (List Int))) => (pL pInt) b_.2) (x_dget (κ := Str) (Ee := (pL pInt)) hr.units (x_var (p := (pM (κ := Str) (pL pInt)) a1) 0) (fun _ => x_var (p := pStr x217) 3) (fun _ _ => rdMF))) (fun _ => x_kd (E := fun (b_ : ((Unit × Unit) × (List Int))) => (pL pInt) b_.2) (x_dget (κ := Str) (Ee := (pL pInt)) hr.units (x_var (p := (pM (κ := Str) (pL pInt)) a2) 1) (fun _ => x_var (p := pStr x217) 3) (fun _ _ => rdMF))) (fun _ _ => rdF) (fun _ _ => rdF)))))))) (fun _ => rdF)))) (fun _ => rfl) (fun _ _ => rfl)))) (fun _ => List.Sublist.refl _)))))) (by unfold M_l_same_sides; rfl)
end
end My
end
section
set_option maxHeartbeats 4000000
set_option synthInstance.maxSize 2000
namespace My
open PySem PySem.Spec PyProof.Rows L2 L3
section
variable {P : Program} {w : World} {K : PySem.W.Frag} {mg : Str → Option Value} {base : Heap}
theorem sc_l_listed : FnScope ["_law_stream_here", "_law_names_here", "_law_rest", "_law_listed_here", "_law_k", "_law_at"] ["_law_stream_here", "_law_names_here"] (defScope (top 41)) := ⟨rfl, rfl, rfl, by decide +kernel, rfl, by decide +kernel, by decide +kernel⟩
theorem ok_l_listed {f : Addr} {fd : FuncData} (C : Ev P K mg) (FD : FnP K "_law_listed" (top 41) f fd)   : FnOk P w K mg base CX0 2 f fd ["_law_stream_here", "_law_names_here"] (Sp_OF_f (oL pInt) (pL pStr) M_l_listed (pL pStr)) := by
  have m_len := C.m_len
  have m_list := C.m_list
  have m_range := C.m_range
  obtain ⟨f_l_next, fd_l_next, F_l_next, g_l_next⟩ := C.f_l_next
  have k_l_next := ok_l_next (P := P) (w := w) (base := base) C F_l_next
  have b_l_next : Binds K fd_l_next ["_law_stream_here", "_law_size"] [] := F_l_next.bindsN fun _ _ _ _ _ _ us hl => match us, hl with | [_, _], _ => rfl
  refine fn_OF_f FD sc_l_listed rfl fun cdv A outer s H E hr v1 G1 a1 a2 => ?_
  exact s_is (s_T (T := (some (a2 : List Str)).bind fun x226 => (some ([] : List Str)).bind fun x228 => grd (rg (a2.length : Int) = true) ((forS (rngL 0 (a2.length : Int).toNat) ((x226, x228, a1) : (List Str) × (List Str) × (List Int)) fun x234 s233 => (M_l_next (s233.2.2) ((s233.1).length : Int)).bind fun r236 => (some (r236.1 : Int)).bind fun x237 => (M_l_next (r236.2) (4 : Int)).bind fun r239 => (if (decide ((0 : Int) < (r239.1))) = true then (atI (s233.1) x237).bind fun x244 => grd ((s233.2.1).length < sizeLine) (some (((s233.2.1) ++ [x244]), r239.2)) else some (s233.2.1, r239.2)).bind fun s241 => grd ((cutL (s233.1) none (some x237)).length + (cutL (s233.1) (some (x237 + (1 : Int))) none).length ≤ sizeLine) ((some (((cutL (s233.1) none (some x237)) ++ (cutL (s233.1) (some (x237 + (1 : Int))) none)) : List Str)).bind fun x242 => some (x242, s241.1, s241.2))).bind fun s235 => some (s235.2.1, s235.2.2))) (s_let (i := 2) (pL pStr) sc_l_listed.nd (x_kd (E := fun (b_ : Unit) => (pL pStr) a2) (x_frz (o_kd (E := fun (b_ : Unit) => (oL pStr) a2) (x_listL (Ee := pStr) m_list (x_var (p := (pL pStr) a2) 1) (fun _ => rdF))))) fun (b227 : Unit) x226 => s_T (T := (some ([] : List Str)).bind fun x228 => grd (rg (a2.length : Int) = true) ((forS (rngL 0 (a2.length : Int).toNat) ((x226, x228, a1) : (List Str) × (List Str) × (List Int)) fun x234 s233 => (M_l_next (s233.2.2) ((s233.1).length : Int)).bind fun r236 => (some (r236.1 : Int)).bind fun x237 => (M_l_next (r236.2) (4 : Int)).bind fun r239 => (if (decide ((0 : Int) < (r239.1))) = true then (atI (s233.1) x237).bind fun x244 => grd ((s233.2.1).length < sizeLine) (some (((s233.2.1) ++ [x244]), r239.2)) else some (s233.2.1, r239.2)).bind fun s241 => grd ((cutL (s233.1) none (some x237)).length + (cutL (s233.1) (some (x237 + (1 : Int))) none).length ≤ sizeLine) ((some (((cutL (s233.1) none (some x237)) ++ (cutL (s233.1) (some (x237 + (1 : Int))) none)) : List Str)).bind fun x242 => some (x242, s241.1, s241.2))).bind fun s235 => some (s235.2.1, s235.2.2))) (s_letO (i := 3) (oL pStr) sc_l_listed.nd (o_kd (E := fun (b_ : Unit) => (oL pStr) ([])) (x_nil pStr)) fun (b229 : Unit) x228 v231 => s_T (T := grd (rg (a2.length : Int) = true) ((forS (rngL 0 (a2.length : Int).toNat) ((x226, x228, a1) : (List Str) × (List Str) × (List Int)) fun x234 s233 => (M_l_next (s233.2.2) ((s233.1).length : Int)).bind fun r236 => (some (r236.1 : Int)).bind fun x237 => (M_l_next (r236.2) (4 : Int)).bind fun r239 => (if (decide ((0 : Int) < (r239.1))) = true then (atI (s233.1) x237).bind fun x244 => grd ((s233.2.1).length < sizeLine) (some (((s233.2.1) ++ [x244]), r239.2)) else some (s233.2.1, r239.2)).bind fun s241 => grd ((cutL (s233.1) none (some x237)).length + (cutL (s233.1) (some (x237 + (1 : Int))) none).length ≤ sizeLine) ((some (((cutL (s233.1) none (some x237)) ++ (cutL (s233.1) (some (x237 + (1 : Int))) none)) : List Str)).bind fun x242 => some (x242, s241.1, s241.2))).bind fun s235 => some (s235.2.1, s235.2.2))) (s_forS PassesOwn.never (fun (b_ : Unit) (s_ : (List Str) × (List Str) × (List Int)) => ([some (pV v1), some ((pL pStr) a2), some ((pL pStr) s_.1), some (pV v231), none, none], [⟨v231, (oL pStr) s_.2.1, none⟩, ⟨v1, (oL pInt) s_.2.2, some 0⟩])) (fun (b_ : Unit) => (x226, x228, a1)) (i_rng1 m_range (x_kd (E := fun (b_ : Unit) => pInt (a2.length : Int)) (x_lenL (Ee := pStr) m_len (x_var (p := (pL pStr) a2) 1) (fun _ => rdF)))) (pg_name (i := 4) sc_l_listed.nd rfl (by first | exact .inl rfl | exact .inr rfl)) (tg_name 4) (fun _ => ⟨rfl, rfl, rfl, rfl, trivial⟩) (fun _ => List.Sublist.refl _) (fun b232 x234 s233 => s_T (T := (M_l_next (s233.2.2) ((s233.1).length : Int)).bind fun r236 => (some (r236.1 : Int)).bind fun x237 => (M_l_next (r236.2) (4 : Int)).bind fun r239 => (if (decide ((0 : Int) < (r239.1))) = true then (atI (s233.1) x237).bind fun x244 => grd ((s233.2.1).length < sizeLine) (some (((s233.2.1) ++ [x244]), r239.2)) else some (s233.2.1, r239.2)).bind fun s241 => grd ((cutL (s233.1) none (some x237)).length + (cutL (s233.1) (some (x237 + (1 : Int))) none).length ≤ sizeLine) ((some (((cutL (s233.1) none (some x237)) ++ (cutL (s233.1) (some (x237 + (1 : Int))) none)) : List Str)).bind fun x242 => some (x242, s241.1, s241.2))) (s_let (i := 5) pInt sc_l_listed.nd (x_kd (E := fun (b_ : ((Unit × Unit) × (Int × (List Int)))) => pInt b_.2.1) (x_OF_f (kk := 1) (E1 := (oL pInt)) (E2 := pInt) (s1 := fun (_ : Unit) (_ : Unit) => s233.2.2) (v1 := v1) k_l_next (hr.mono (by decide)) g_l_next F_l_next.kp b_l_next 1 (x_var (p := pV v1) 0) (fun _ => x_kd (E := fun (b_ : Unit) => pInt ((s233.1).length : Int)) (x_lenL (Ee := pStr) m_len (x_var (p := (pL pStr) s233.1) 2) (fun _ => rdF))) (fun _ _ => rfl))) fun (b238 : ((Unit × Unit) × (Int × (List Int)))) x237 => s_T (T := (M_l_next (b238.2.2) (4 : Int)).bind fun r239 => (if (decide ((0 : Int) < (r239.1))) = true then (atI (s233.1) x237).bind fun x244 => grd ((s233.2.1).length < sizeLine) (some (((s233.2.1) ++ [x244]), r239.2)) else some (s233.2.1, r239.2)).bind fun s241 => grd ((cutL (s233.1) none (some x237)).length + (cutL (s233.1) (some (x237 + (1 : Int))) none).length ≤ sizeLine) ((some (((cutL (s233.1) none (some x237)) ++ (cutL (s233.1) (some (x237 + (1 : Int))) none)) : List Str)).bind fun x242 => some (x242, s241.1, s241.2))) (s_ifN (C := fun s_ : (List Str) × (List Int) => ([some (pV v1), some ((pL pStr) a2), some ((pL pStr) s233.1), some (pV v231), some (pInt x234), some (pInt x237)], [⟨v231, (oL pStr) s_.1, none⟩, ⟨v1, (oL pInt) s_.2, some 0⟩])) (t_kd (c := fun (b_ : (((Unit × Unit) × (Int × (List Int))) × Unit)) => (decide ((0 : Int) < (b_.1.2.1)))) (t_gt (x_kd (E := fun (b_ : ((Unit × Unit) × (Int × (List Int)))) => pInt b_.2.1) (x_OF_f (kk := 1) (E1 := (oL pInt)) (E2 := pInt) (s1 := fun (_ : Unit) (_ : Unit) => b238.2.2) (v1 := v1) k_l_next (hr.mono (by decide)) g_l_next F_l_next.kp b_l_next 1 (x_var (p := pV v1) 0) (fun _ => x_int (i := 4)) (fun _ _ => rfl))) (fun _ => x_int (i := 0)))) (fun (b240 : (((Unit × Unit) × (Int × (List Int))) × Unit)) => s_T (T := (atI (s233.1) x237).bind fun x244 => grd ((s233.2.1).length < sizeLine) (some (((s233.2.1) ++ [x244]), b240.1.2.2))) (s_expr (x_app 0 (x_var (p := pV v231) 3) (fun _ => x_kd (E := fun (b_ : ((Unit × Unit) × Str)) => pStr b_.2) (x_ixL (Ee := pStr) (x_var (p := (pL pStr) s233.1) 2) (fun _ => x_var (p := pInt x237) 5) (fun _ _ => rdF))) (fun _ => rfl) (fun _ _ => rfl)) fun (b245 : (Unit × ((Unit × Unit) × Str))) => s_end (((s233.2.1) ++ [b245.2.2]), b240.1.2.2) rfl ⟨rfl, rfl, rfl, rfl, rfl, rfl, trivial⟩ (List.Sublist.refl _))) (fun (b240 : (((Unit × Unit) × (Int × (List Int))) × Unit)) => s_end (s233.2.1, b240.1.2.2) rfl ⟨rfl, rfl, rfl, rfl, rfl, rfl, trivial⟩ (List.Sublist.refl _)) fun (b240 : (((Unit × Unit) × (Int × (List Int))) × Unit)) s241 => s_T (T := grd ((cutL (s233.1) none (some x237)).length + (cutL (s233.1) (some (x237 + (1 : Int))) none).length ≤ sizeLine) ((some (((cutL (s233.1) none (some x237)) ++ (cutL (s233.1) (some (x237 + (1 : Int))) none)) : List Str)).bind fun x242 => some (x242, s241.1, s241.2))) (s_let (i := 2) (pL pStr) sc_l_listed.nd (x_kd (E := fun (b_ : ((Unit × (Unit × Unit)) × (Unit × ((Unit × Unit) × Unit)))) => (pL pStr) ((cutL (s233.1) none (some x237)) ++ (cutL (s233.1) (some (x237 + (1 : Int))) none))) (x_frz (o_kd (E := fun (b_ : ((Unit × (Unit × Unit)) × (Unit × ((Unit × Unit) × Unit)))) => (oL pStr) ((cutL (s233.1) none (some x237)) ++ (cutL (s233.1) (some (x237 + (1 : Int))) none))) (x_cat (Ee := pStr) (x_kd (E := fun (b_ : (Unit × (Unit × Unit))) => (pL pStr) (cutL (s233.1) none (some x237))) (x_frz (o_kd (E := fun (b_ : (Unit × (Unit × Unit))) => (oL pStr) (cutL (s233.1) none (some x237))) (x_slL (Ee := pStr) (x_var (p := (pL pStr) s233.1) 2) (fun _ => p_none) (fun _ _ => p_some (i := fun (b_ : Unit) => x237) (x_var (p := pInt x237) 5)) (fun _ _ _ => rdF))))) (fun _ => x_kd (E := fun (b_ : (Unit × ((Unit × Unit) × Unit))) => (pL pStr) (cutL (s233.1) (some (x237 + (1 : Int))) none)) (x_frz (o_kd (E := fun (b_ : (Unit × ((Unit × Unit) × Unit))) => (oL pStr) (cutL (s233.1) (some (x237 + (1 : Int))) none)) (x_slL (Ee := pStr) (x_var (p := (pL pStr) s233.1) 2) (fun _ => p_some (i := fun (b_ : (Unit × Unit)) => (x237 + (1 : Int))) (x_kd (E := fun (b_ : (Unit × Unit)) => pInt (x237 + (1 : Int))) (x_add (x_var (p := pInt x237) 5) (fun _ => x_int (i := 1))))) (fun _ _ => p_none) (fun _ _ _ => rdF))))) (fun _ _ => rdF) (fun _ _ => rdF))))) fun (b243 : ((Unit × (Unit × Unit)) × (Unit × ((Unit × Unit) × Unit)))) x242 => s_end (x242, s241.1, s241.2) rfl ⟨rfl, rfl, rfl, rfl, trivial⟩ (List.Sublist.refl _))))) fun b232 s235 => s_T (T := some (s235.2.1, s235.2.2)) (s_frz (i := 3) (c := ⟨v231, (oL pStr) s235.2.1, none⟩) 0 (s_ret (P := (fun (r : (List Str) × (List Int)) => [⟨v1, (oL pInt) r.2, some 0⟩])) (Rp := (fun (r : (List Str) × (List Int)) => (pL pStr) r.1)) (ι := id) (rv := fun (b : Unit) => (s235.2.1, s235.2.2)) (fun _ _ _ h => h) (x_var (p := (pL pStr) s235.2.1) 3) (fun _ => List.Sublist.refl _))))))) (by unfold M_l_listed; rfl)
end
end My
end
section
set_option maxHeartbeats 4000000
set_option synthInstance.maxSize 2000
namespace My
open PySem PySem.Spec PyProof.Rows L2 L3
section
variable {P : Program} {w : World} {K : PySem.W.Frag} {mg : Str → Option Value} {base : Heap}
theorem sc_l_drawn_side : FnScope ["_law_stream_here", "_law_side", "_law_pool_here", "_law_way", "_law_wide", "_law_value"] ["_law_stream_here", "_law_side", "_law_pool_here"] (defScope (top 42)) := ⟨rfl, rfl, rfl, by decide +kernel, rfl, by decide +kernel, by decide +kernel⟩
theorem ok_l_drawn_side {f : Addr} {fd : FuncData} (C : Ev P K mg) (FD : FnP K "_law_drawn_side" (top 42) f fd)   : FnOk P w K mg base CX0 2 f fd ["_law_stream_here", "_law_side", "_law_pool_here"] (Sp_OFF_o (oL pInt) (pL pInt) (pL pInt) M_l_drawn_side (oL pInt)) := by
  have m_list := C.m_list
  obtain ⟨f_l_next, fd_l_next, F_l_next, g_l_next⟩ := C.f_l_next
  have k_l_next := ok_l_next (P := P) (w := w) (base := base) C F_l_next
  have b_l_next : Binds K fd_l_next ["_law_stream_here", "_law_size"] [] := F_l_next.bindsN fun _ _ _ _ _ _ us hl => match us, hl with | [_, _], _ => rfl
  refine fn_OFF_o FD sc_l_drawn_side rfl fun cdv A outer s H E hr v1 G1 a1 a2 a3 => ?_
  exact s_is (s_T (T := (M_l_next a1 (6 : Int)).bind fun r246 => (some (r246.1 : Int)).bind fun x247 => if (decide (x247 = (0 : Int))) = true then some (a2, r246.2) else if (decide (x247 = (1 : Int))) = true then some ([], r246.2) else (atI a3 (0 : Int)).bind fun x251 => grd (([(x251 - (2 : Int))]).length + a3.length ≤ sizeLine) ((atI a3 (-(1 : Int))).bind fun x252 => grd ((([(x251 - (2 : Int))]) ++ a3).length + ([(x252 + (2 : Int))]).length ≤ sizeLine) ((some (((([(x251 - (2 : Int))]) ++ a3) ++ ([(x252 + (2 : Int))])) : List Int)).bind fun x253 => if (decide (x247 = (2 : Int))) = true then (compM x253 (r246.2) (fun x257 s261 => ((if (decide (x257 ∈ a2)) = true then some (true, s261) else (M_l_next s261 (2 : Int)).bind fun r264 => some ((decide ((r264.1) = (0 : Int))), r264.2))).bind fun c265 => if c265.1 = true then some (some x257, c265.2) else some (none, c265.2))).bind fun r266 => some (r266.1, r266.2) else (compM x253 (r246.2) (fun x268 s270 => (M_l_next s270 (2 : Int)).bind fun r272 => if (decide ((r272.1) = (0 : Int))) = true then some (some x268, r272.2) else some (none, r272.2))).bind fun r273 => some (r273.1, r273.2)))) (s_let (i := 3) pInt sc_l_drawn_side.nd (x_kd (E := fun (b_ : ((Unit × Unit) × (Int × (List Int)))) => pInt b_.2.1) (x_OF_f (kk := 1) (E1 := (oL pInt)) (E2 := pInt) (s1 := fun (_ : Unit) (_ : Unit) => a1) (v1 := v1) k_l_next (hr.mono (by decide)) g_l_next F_l_next.kp b_l_next 0 (x_var (p := pV v1) 0) (fun _ => x_int (i := 6)) (fun _ _ => rfl))) fun (b248 : ((Unit × Unit) × (Int × (List Int)))) x247 => s_T (T := if (decide (x247 = (0 : Int))) = true then some (a2, b248.2.2) else if (decide (x247 = (1 : Int))) = true then some ([], b248.2.2) else (atI a3 (0 : Int)).bind fun x251 => grd (([(x251 - (2 : Int))]).length + a3.length ≤ sizeLine) ((atI a3 (-(1 : Int))).bind fun x252 => grd ((([(x251 - (2 : Int))]) ++ a3).length + ([(x252 + (2 : Int))]).length ≤ sizeLine) ((some (((([(x251 - (2 : Int))]) ++ a3) ++ ([(x252 + (2 : Int))])) : List Int)).bind fun x253 => if (decide (x247 = (2 : Int))) = true then (compM x253 (b248.2.2) (fun x257 s261 => ((if (decide (x257 ∈ a2)) = true then some (true, s261) else (M_l_next s261 (2 : Int)).bind fun r264 => some ((decide ((r264.1) = (0 : Int))), r264.2))).bind fun c265 => if c265.1 = true then some (some x257, c265.2) else some (none, c265.2))).bind fun r266 => some (r266.1, r266.2) else (compM x253 (b248.2.2) (fun x268 s270 => (M_l_next s270 (2 : Int)).bind fun r272 => if (decide ((r272.1) = (0 : Int))) = true then some (some x268, r272.2) else some (none, r272.2))).bind fun r273 => some (r273.1, r273.2)))) (s_ifT (ins_F _) (t_kd (c := fun (b_ : (Unit × Unit)) => (decide (x247 = (0 : Int)))) (t_eqI (x_var (p := pInt x247) 3) (fun _ => x_int (i := 0)))) (fun (b249 : (Unit × Unit)) => s_T (T := some (a2, b248.2.2)) (s_retO (P := (fun (r : (List Int) × (List Int)) => [⟨v1, (oL pInt) r.2, some 0⟩])) (Ro := (fun (r : (List Int) × (List Int)) => (oL pInt) r.1)) (ι := id) (rv := fun (b : Unit) => (a2, b248.2.2)) (fun _ _ _ h => h) (o_kd (E := fun (b_ : Unit) => (oL pInt) a2) (x_listL (Ee := pInt) m_list (x_var (p := (pL pInt) a2) 1) (fun _ => rdF))) (fun _ => List.Sublist.refl _))) fun (b249 : (Unit × Unit)) => s_T (T := if (decide (x247 = (1 : Int))) = true then some ([], b248.2.2) else (atI a3 (0 : Int)).bind fun x251 => grd (([(x251 - (2 : Int))]).length + a3.length ≤ sizeLine) ((atI a3 (-(1 : Int))).bind fun x252 => grd ((([(x251 - (2 : Int))]) ++ a3).length + ([(x252 + (2 : Int))]).length ≤ sizeLine) ((some (((([(x251 - (2 : Int))]) ++ a3) ++ ([(x252 + (2 : Int))])) : List Int)).bind fun x253 => if (decide (x247 = (2 : Int))) = true then (compM x253 (b248.2.2) (fun x257 s261 => ((if (decide (x257 ∈ a2)) = true then some (true, s261) else (M_l_next s261 (2 : Int)).bind fun r264 => some ((decide ((r264.1) = (0 : Int))), r264.2))).bind fun c265 => if c265.1 = true then some (some x257, c265.2) else some (none, c265.2))).bind fun r266 => some (r266.1, r266.2) else (compM x253 (b248.2.2) (fun x268 s270 => (M_l_next s270 (2 : Int)).bind fun r272 => if (decide ((r272.1) = (0 : Int))) = true then some (some x268, r272.2) else some (none, r272.2))).bind fun r273 => some (r273.1, r273.2)))) (s_ifT (ins_F _) (t_kd (c := fun (b_ : (Unit × Unit)) => (decide (x247 = (1 : Int)))) (t_eqI (x_var (p := pInt x247) 3) (fun _ => x_int (i := 1)))) (fun (b250 : (Unit × Unit)) => s_T (T := some ([], b248.2.2)) (s_retO (P := (fun (r : (List Int) × (List Int)) => [⟨v1, (oL pInt) r.2, some 0⟩])) (Ro := (fun (r : (List Int) × (List Int)) => (oL pInt) r.1)) (ι := id) (rv := fun (b : Unit) => ([], b248.2.2)) (fun _ _ _ h => h) (o_kd (E := fun (b_ : Unit) => (oL pInt) ([])) (x_nil pInt)) (fun _ => List.Sublist.refl _))) fun (b250 : (Unit × Unit)) => s_T (T := (atI a3 (0 : Int)).bind fun x251 => grd (([(x251 - (2 : Int))]).length + a3.length ≤ sizeLine) ((atI a3 (-(1 : Int))).bind fun x252 => grd ((([(x251 - (2 : Int))]) ++ a3).length + ([(x252 + (2 : Int))]).length ≤ sizeLine) ((some (((([(x251 - (2 : Int))]) ++ a3) ++ ([(x252 + (2 : Int))])) : List Int)).bind fun x253 => if (decide (x247 = (2 : Int))) = true then (compM x253 (b248.2.2) (fun x257 s261 => ((if (decide (x257 ∈ a2)) = true then some (true, s261) else (M_l_next s261 (2 : Int)).bind fun r264 => some ((decide ((r264.1) = (0 : Int))), r264.2))).bind fun c265 => if c265.1 = true then some (some x257, c265.2) else some (none, c265.2))).bind fun r266 => some (r266.1, r266.2) else (compM x253 (b248.2.2) (fun x268 s270 => (M_l_next s270 (2 : Int)).bind fun r272 => if (decide ((r272.1) = (0 : Int))) = true then some (some x268, r272.2) else some (none, r272.2))).bind fun r273 => some (r273.1, r273.2)))) (s_let (i := 4) (pL pInt) sc_l_drawn_side.nd (x_kd (E := fun (b_ : ((((((Unit × Unit) × Int) × Unit) × Unit) × Unit) × ((((Unit × Unit) × Int) × Unit) × Unit))) => (pL pInt) ((([(b_.1.1.1.1.2 - (2 : Int))]) ++ a3) ++ ([(b_.2.1.1.2 + (2 : Int))]))) (x_frz (o_kd (E := fun (b_ : ((((((Unit × Unit) × Int) × Unit) × Unit) × Unit) × ((((Unit × Unit) × Int) × Unit) × Unit))) => (oL pInt) ((([(b_.1.1.1.1.2 - (2 : Int))]) ++ a3) ++ ([(b_.2.1.1.2 + (2 : Int))]))) (x_cat (Ee := pInt) (x_kd (E := fun (b_ : (((((Unit × Unit) × Int) × Unit) × Unit) × Unit)) => (pL pInt) (([(b_.1.1.1.2 - (2 : Int))]) ++ a3)) (x_frz (o_kd (E := fun (b_ : (((((Unit × Unit) × Int) × Unit) × Unit) × Unit)) => (oL pInt) (([(b_.1.1.1.2 - (2 : Int))]) ++ a3)) (x_cat (Ee := pInt) (x_kd (E := fun (b_ : ((((Unit × Unit) × Int) × Unit) × Unit)) => (pL pInt) ([(b_.1.1.2 - (2 : Int))])) (x_frz (o_kd (E := fun (b_ : ((((Unit × Unit) × Int) × Unit) × Unit)) => (oL pInt) ([(b_.1.1.2 - (2 : Int))])) (x_disp pInt (fun _ => [_]) (a_cons (x_kd (E := fun (b_ : (((Unit × Unit) × Int) × Unit)) => pInt (b_.1.2 - (2 : Int))) (x_sub (x_kd (E := fun (b_ : ((Unit × Unit) × Int)) => pInt b_.2) (x_ixL (Ee := pInt) (x_var (p := (pL pInt) a3) 2) (fun _ => x_int (i := 0)) (fun _ _ => rdF))) (fun _ => x_int (i := 2)))) (fun _ => a_nil)) (fun _ => rfl) (fun _ => by simp))))) (fun _ => x_var (p := (pL pInt) a3) 2) (fun _ _ => rdF) (fun _ _ => rdF))))) (fun _ => x_kd (E := fun (b_ : ((((Unit × Unit) × Int) × Unit) × Unit)) => (pL pInt) ([(b_.1.1.2 + (2 : Int))])) (x_frz (o_kd (E := fun (b_ : ((((Unit × Unit) × Int) × Unit) × Unit)) => (oL pInt) ([(b_.1.1.2 + (2 : Int))])) (x_disp pInt (fun _ => [_]) (a_cons (x_kd (E := fun (b_ : (((Unit × Unit) × Int) × Unit)) => pInt (b_.1.2 + (2 : Int))) (x_add (x_kd (E := fun (b_ : ((Unit × Unit) × Int)) => pInt b_.2) (x_ixL (Ee := pInt) (x_var (p := (pL pInt) a3) 2) (fun _ => x_kd (E := fun (b_ : Unit) => pInt (-(1 : Int))) (x_neg (x_int (i := 1)))) (fun _ _ => rdF))) (fun _ => x_int (i := 2)))) (fun _ => a_nil)) (fun _ => rfl) (fun _ => by simp))))) (fun _ _ => rdF) (fun _ _ => rdF))))) fun (b254 : ((((((Unit × Unit) × Int) × Unit) × Unit) × Unit) × ((((Unit × Unit) × Int) × Unit) × Unit))) x253 => s_T (T := if (decide (x247 = (2 : Int))) = true then (compM x253 (b248.2.2) (fun x257 s261 => ((if (decide (x257 ∈ a2)) = true then some (true, s261) else (M_l_next s261 (2 : Int)).bind fun r264 => some ((decide ((r264.1) = (0 : Int))), r264.2))).bind fun c265 => if c265.1 = true then some (some x257, c265.2) else some (none, c265.2))).bind fun r266 => some (r266.1, r266.2) else (compM x253 (b248.2.2) (fun x268 s270 => (M_l_next s270 (2 : Int)).bind fun r272 => if (decide ((r272.1) = (0 : Int))) = true then some (some x268, r272.2) else some (none, r272.2))).bind fun r273 => some (r273.1, r273.2)) (s_ifT (ins_F _) (t_kd (c := fun (b_ : (Unit × Unit)) => (decide (x247 = (2 : Int)))) (t_eqI (x_var (p := pInt x247) 3) (fun _ => x_int (i := 2)))) (fun (b255 : (Unit × Unit)) => s_T (T := (compM x253 (b248.2.2) (fun x257 s261 => ((if (decide (x257 ∈ a2)) = true then some (true, s261) else (M_l_next s261 (2 : Int)).bind fun r264 => some ((decide ((r264.1) = (0 : Int))), r264.2))).bind fun c265 => if c265.1 = true then some (some x257, c265.2) else some (none, c265.2))).bind fun r266 => some (r266.1, r266.2)) (s_retO (P := (fun (r : (List Int) × (List Int)) => [⟨v1, (oL pInt) r.2, some 0⟩])) (Ro := (fun (r : (List Int) × (List Int)) => (oL pInt) r.1)) (ι := id) (rv := fun (b : (Unit × ((List Int) × (List Int)))) => (b.2.1, b.2.2)) (fun _ _ _ h => h) (o_kd (o_kd (E := fun (b_ : (Unit × ((List Int) × (List Int)))) => (oL pInt) b_.2.1) (x_lc (own := [("_law_value", 5)]) (C := fun (b_ : Unit) (s_ : (List Int)) => [⟨v1, (oL pInt) s_, some 0⟩]) (s0 := fun (b_ : Unit) => b248.2.2) (s2 := fun (b_ : Unit) (x_ : Int) (s_ : (List Int)) (c_ : ((Unit × Unit) × (Bool × (List Int)))) => c_.2.2) (s3 := fun (b_ : Unit) (x_ : Int) (s_ : (List Int)) (c_ : ((Unit × Unit) × (Bool × (List Int)))) (d_ : Unit) => c_.2.2) (Ex := pInt) (Ee := pInt) (δ := Int) (y := fun (b_ : Unit) (x_ : Int) (s_ : (List Int)) (c_ : ((Unit × Unit) × (Bool × (List Int)))) (d_ : Unit) => x_) (T2 := fun (b_ : Unit) (x_ : Int) (s_ : (List Int)) (c_ : ((Unit × Unit) × (Bool × (List Int)))) => some (some x_, c_.2.2)) (c := fun (b_ : Unit) (x_ : Int) (s_ : (List Int)) (c_ : ((Unit × Unit) × (Bool × (List Int)))) => c_.2.1) (f := fun (b_ : Unit) (x_ : Int) (s_ : (List Int)) => ((if (decide (x_ ∈ a2)) = true then some (true, s_) else (M_l_next s_ (2 : Int)).bind fun r264 => some ((decide ((r264.1) = (0 : Int))), r264.2))).bind fun c265 => if c265.1 = true then some (some x_, c265.2) else some (none, c265.2)) sc_l_drawn_side.nd (i_list (x_var (p := (pL pInt) x253) 4)) (blkOk_by (own := [("_law_value", 5)]) (N := ["_law_stream_here", "_law_side", "_law_pool_here", "_law_way", "_law_wide", "_law_value"]) (sc := (defScope (top 42))) (by decide +kernel)) (fun _ _ _ _ _ => pg_name (i := 5) sc_l_drawn_side.nd rfl (by first | exact .inl rfl | exact .inr rfl)) (tw_name 5) (fun _ => rfl) (by exact fun q262 _ _ _ _ _ b256 x257 s261 => t_out (pts_one (t_kd (c := fun (b_ : ((Unit × Unit) × (Bool × (List Int)))) => b_.2.1) (PW.pt (w_orM (ΔS := fun (b_ : (Unit × Unit)) (s_ : (List Int)) => [⟨v1, (oL pInt) s_, some 0⟩] ++ [q262]) (s1 := fun (b_ : (Unit × Unit)) => s261) (s2 := fun (b_ : (Unit × Unit)) (c_ : (((Unit × Unit) × (Int × (List Int))) × Unit)) => c_.1.2.2) (t_kd (c := fun (b_ : (Unit × Unit)) => (decide (x257 ∈ a2))) (t_inL flInt (x_var (p := pInt x257) 5) (fun _ => x_var (p := (pL pInt) a2) 1) (fun _ _ => rdF))) (fun _ => w_or1 (t_kd (c := fun (b_ : (((Unit × Unit) × (Int × (List Int))) × Unit)) => (decide ((b_.1.2.1) = (0 : Int)))) (t_eqI (x_kd (E := fun (b_ : ((Unit × Unit) × (Int × (List Int)))) => pInt b_.2.1) (x_OF_f (kk := 1) (E1 := (oL pInt)) (E2 := pInt) (s1 := fun (_ : Unit) (_ : Unit) => s261) (v1 := v1) k_l_next (hr.mono (by decide)) g_l_next F_l_next.kp b_l_next 0 (x_var (p := pV v1) 0) (fun _ => x_int (i := 2)) (fun _ _ => rfl))) (fun _ => x_int (i := 0))))) (fun _ => rfl) (fun _ _ => rfl)))))) (by exact fun q262 _ _ _ _ _ b256 x257 s261 _ => x_out (x_var (p := pInt x257) 5))))) (fun _ => List.Sublist.refl _))) fun (b255 : (Unit × Unit)) => s_T (T := (compM x253 (b248.2.2) (fun x268 s270 => (M_l_next s270 (2 : Int)).bind fun r272 => if (decide ((r272.1) = (0 : Int))) = true then some (some x268, r272.2) else some (none, r272.2))).bind fun r273 => some (r273.1, r273.2)) (s_retO (P := (fun (r : (List Int) × (List Int)) => [⟨v1, (oL pInt) r.2, some 0⟩])) (Ro := (fun (r : (List Int) × (List Int)) => (oL pInt) r.1)) (ι := id) (rv := fun (b : (Unit × ((List Int) × (List Int)))) => (b.2.1, b.2.2)) (fun _ _ _ h => h) (o_kd (o_kd (E := fun (b_ : (Unit × ((List Int) × (List Int)))) => (oL pInt) b_.2.1) (x_lc (own := [("_law_value", 5)]) (C := fun (b_ : Unit) (s_ : (List Int)) => [⟨v1, (oL pInt) s_, some 0⟩]) (s0 := fun (b_ : Unit) => b248.2.2) (s2 := fun (b_ : Unit) (x_ : Int) (s_ : (List Int)) (c_ : (((Unit × Unit) × (Int × (List Int))) × Unit)) => c_.1.2.2) (s3 := fun (b_ : Unit) (x_ : Int) (s_ : (List Int)) (c_ : (((Unit × Unit) × (Int × (List Int))) × Unit)) (d_ : Unit) => c_.1.2.2) (Ex := pInt) (Ee := pInt) (δ := Int) (y := fun (b_ : Unit) (x_ : Int) (s_ : (List Int)) (c_ : (((Unit × Unit) × (Int × (List Int))) × Unit)) (d_ : Unit) => x_) (T2 := fun (b_ : Unit) (x_ : Int) (s_ : (List Int)) (c_ : (((Unit × Unit) × (Int × (List Int))) × Unit)) => some (some x_, c_.1.2.2)) (c := fun (b_ : Unit) (x_ : Int) (s_ : (List Int)) (c_ : (((Unit × Unit) × (Int × (List Int))) × Unit)) => (decide ((c_.1.2.1) = (0 : Int)))) (f := fun (b_ : Unit) (x_ : Int) (s_ : (List Int)) => (M_l_next s_ (2 : Int)).bind fun r272 => if (decide ((r272.1) = (0 : Int))) = true then some (some x_, r272.2) else some (none, r272.2)) sc_l_drawn_side.nd (i_list (x_var (p := (pL pInt) x253) 4)) (blkOk_by (own := [("_law_value", 5)]) (N := ["_law_stream_here", "_law_side", "_law_pool_here", "_law_way", "_law_wide", "_law_value"]) (sc := (defScope (top 42))) (by decide +kernel)) (fun _ _ _ _ _ => pg_name (i := 5) sc_l_drawn_side.nd rfl (by first | exact .inl rfl | exact .inr rfl)) (tw_name 5) (fun _ => rfl) (by exact fun q271 _ _ _ _ _ b267 x268 s270 => t_out (pts_one (t_kd (c := fun (b_ : (((Unit × Unit) × (Int × (List Int))) × Unit)) => (decide ((b_.1.2.1) = (0 : Int)))) (t_eqI (x_kd (E := fun (b_ : ((Unit × Unit) × (Int × (List Int)))) => pInt b_.2.1) (x_OF_f (kk := 1) (E1 := (oL pInt)) (E2 := pInt) (s1 := fun (_ : Unit) (_ : Unit) => s270) (v1 := v1) k_l_next (hr.mono (by decide)) g_l_next F_l_next.kp b_l_next 0 (x_var (p := pV v1) 0) (fun _ => x_int (i := 2)) (fun _ _ => rfl))) (fun _ => x_int (i := 0)))))) (by exact fun q271 _ _ _ _ _ b267 x268 s270 _ => x_out (x_var (p := pInt x268) 5))))) (fun _ => List.Sublist.refl _)))))))) (by unfold M_l_drawn_side; rfl)
end
end My
end
section
set_option maxHeartbeats 4000000
set_option synthInstance.maxSize 2000
namespace My
open PySem PySem.Spec PyProof.Rows L2 L3
section
variable {P : Program} {w : World} {K : PySem.W.Frag} {mg : Str → Option Value} {base : Heap}
theorem sc_l_full : FnScope ["_law_sides", "_law_domains_here", "_law_full_here", "_law_domain", "_law_value"] ["_law_sides", "_law_domains_here"] (defScope (top 43)) := ⟨rfl, rfl, rfl, by decide +kernel, rfl, by decide +kernel, by decide +kernel⟩
theorem ok_l_full {f : Addr} {fd : FuncData} (C : Ev P K mg) (FD : FnP K "_law_full" (top 43) f fd)   : FnOk P w K mg base CX0 1 f fd ["_law_sides", "_law_domains_here"] (Sp_FF_o (pM (κ := Str) (pL pInt)) (pL (pT2 pStr (pL pInt))) M_l_full (oM (κ := Str) (pL pInt))) := by
  have m_list := C.m_list
  refine fn_FF_o FD sc_l_full rfl fun cdv A outer s H E hr  a1 a2 => ?_
  exact s_is (s_T (T := (some (([] : List (Str × List Int)) : List (Str × List Int))).bind fun x274 => (forS a2 (x274 : (List (Str × List Int))) fun x280 s279 => grd (s279.length < sizeLine) ((if (dhas a1 (x280.1)) = true then (compM (x280.2) () (fun x287 s289 => (dget a1 (x280.1)).bind fun x291 => if (decide (x287 ∈ x291)) = true then some (some x287, ()) else some (none, ()))).bind fun r292 => grd ((dput s279 (x280.1) (x280.2)).length < sizeLine) (some (dput (dput s279 (x280.1) (x280.2)) (x280.1) (r292.1))) else some (dput s279 (x280.1) (x280.2))).bind fun s285 => some s285)).bind fun s281 => some s281) (s_letO (i := 2) (oM (κ := Str) (pL pInt)) sc_l_full.nd (o_kd (E := fun (b_ : Unit) => (oM (κ := Str) (pL pInt)) ([] : List (Str × List Int))) (x_dict0 (κ := Str) (pL pInt))) fun (b275 : Unit) x274 v277 => s_T (T := (forS a2 (x274 : (List (Str × List Int))) fun x280 s279 => grd (s279.length < sizeLine) ((if (dhas a1 (x280.1)) = true then (compM (x280.2) () (fun x287 s289 => (dget a1 (x280.1)).bind fun x291 => if (decide (x287 ∈ x291)) = true then some (some x287, ()) else some (none, ()))).bind fun r292 => grd ((dput s279 (x280.1) (x280.2)).length < sizeLine) (some (dput (dput s279 (x280.1) (x280.2)) (x280.1) (r292.1))) else some (dput s279 (x280.1) (x280.2))).bind fun s285 => some s285)).bind fun s281 => some s281) (s_forS PassesOwn.never (fun (b_ : Unit) (s_ : (List (Str × List Int))) => ([some ((pM (κ := Str) (pL pInt)) a1), some ((pL (pT2 pStr (pL pInt))) a2), some (pV v277), none, none], [⟨v277, (oM (κ := Str) (pL pInt)) s_, none⟩])) (fun (b_ : Unit) => x274) (i_list (x_var (p := (pL (pT2 pStr (pL pInt))) a2) 1)) (pg_name (i := 3) sc_l_full.nd rfl (by first | exact .inl rfl | exact .inr rfl)) (tg_name 3) (fun _ => ⟨rfl, rfl, rfl, trivial⟩) (fun _ => List.Sublist.refl _) (fun b278 x280 s279 => s_T (T := grd (s279.length < sizeLine) ((if (dhas a1 (x280.1)) = true then (compM (x280.2) () (fun x287 s289 => (dget a1 (x280.1)).bind fun x291 => if (decide (x287 ∈ x291)) = true then some (some x287, ()) else some (none, ()))).bind fun r292 => grd ((dput s279 (x280.1) (x280.2)).length < sizeLine) (some (dput (dput s279 (x280.1) (x280.2)) (x280.1) (r292.1))) else some (dput s279 (x280.1) (x280.2))).bind fun s285 => some s285)) (s_dput (κ := Str) (Ee := (pL pInt)) 0 hr.units (x_kd (E := fun (b_ : Unit) => (pL pInt) x280.2) (x_frz (o_kd (E := fun (b_ : Unit) => (oL pInt) x280.2) (x_listL (Ee := pInt) m_list (x_kd (E := fun (b_ : Unit) => (pL pInt) x280.2) (x_snd (x_var (p := (pT2 pStr (pL pInt)) x280) 3))) (fun _ => rdF))))) (fun _ => x_var (p := pV v277) 2) (fun _ _ => x_kd (E := fun (b_ : Unit) => pStr x280.1) (x_fst (x_var (p := (pT2 pStr (pL pInt)) x280) 3))) (fun _ _ _ => rfl) fun (b283 : ((Unit × Unit) × Unit)) => s_T (T := (if (dhas a1 (x280.1)) = true then (compM (x280.2) () (fun x287 s289 => (dget a1 (x280.1)).bind fun x291 => if (decide (x287 ∈ x291)) = true then some (some x287, ()) else some (none, ()))).bind fun r292 => grd ((dput s279 (x280.1) (x280.2)).length < sizeLine) (some (dput (dput s279 (x280.1) (x280.2)) (x280.1) (r292.1))) else some (dput s279 (x280.1) (x280.2))).bind fun s285 => some s285) (s_ifN (C := fun s_ : (List (Str × List Int)) => ([some ((pM (κ := Str) (pL pInt)) a1), some ((pL (pT2 pStr (pL pInt))) a2), some (pV v277), some ((pT2 pStr (pL pInt)) x280), none], [⟨v277, (oM (κ := Str) (pL pInt)) s_, none⟩])) (t_kd (c := fun (b_ : (Unit × Unit)) => (dhas a1 (x280.1))) (t_din (κ := Str) (Ee := (pL pInt)) hr.units (x_kd (E := fun (b_ : Unit) => pStr x280.1) (x_fst (x_var (p := (pT2 pStr (pL pInt)) x280) 3))) (fun _ => x_var (p := (pM (κ := Str) (pL pInt)) a1) 0) (fun _ _ => rdMF))) (fun (b284 : (Unit × Unit)) => s_T (T := (compM (x280.2) () (fun x287 s289 => (dget a1 (x280.1)).bind fun x291 => if (decide (x287 ∈ x291)) = true then some (some x287, ()) else some (none, ()))).bind fun r292 => grd ((dput s279 (x280.1) (x280.2)).length < sizeLine) (some (dput (dput s279 (x280.1) (x280.2)) (x280.1) (r292.1)))) (s_dput (κ := Str) (Ee := (pL pInt)) 0 hr.units (x_kd (E := fun (b_ : (Unit × ((List Int) × Unit))) => (pL pInt) b_.2.1) (x_frz (o_kd (E := fun (b_ : (Unit × ((List Int) × Unit))) => (oL pInt) b_.2.1) (x_lc (own := [("_law_value", 4)]) (C := fun (b_ : Unit) (s_ : Unit) => [⟨v277, (oM (κ := Str) (pL pInt)) (dput s279 (x280.1) (x280.2)), none⟩]) (s0 := fun (b_ : Unit) => ()) (s2 := fun (b_ : Unit) (x_ : Int) (s_ : Unit) (c_ : (Unit × ((Unit × Unit) × (List Int)))) => ()) (s3 := fun (b_ : Unit) (x_ : Int) (s_ : Unit) (c_ : (Unit × ((Unit × Unit) × (List Int)))) (d_ : Unit) => ()) (Ex := pInt) (Ee := pInt) (δ := Int) (y := fun (b_ : Unit) (x_ : Int) (s_ : Unit) (c_ : (Unit × ((Unit × Unit) × (List Int)))) (d_ : Unit) => x_) (T2 := fun (b_ : Unit) (x_ : Int) (s_ : Unit) (c_ : (Unit × ((Unit × Unit) × (List Int)))) => some (some x_, ())) (c := fun (b_ : Unit) (x_ : Int) (s_ : Unit) (c_ : (Unit × ((Unit × Unit) × (List Int)))) => (decide (x_ ∈ c_.2.2))) (f := fun (b_ : Unit) (x_ : Int) (s_ : Unit) => (dget a1 (x280.1)).bind fun x291 => if (decide (x_ ∈ x291)) = true then some (some x_, ()) else some (none, ())) sc_l_full.nd (i_list (x_kd (E := fun (b_ : Unit) => (pL pInt) x280.2) (x_snd (x_var (p := (pT2 pStr (pL pInt)) x280) 3)))) (blkOk_by (own := [("_law_value", 4)]) (N := ["_law_sides", "_law_domains_here", "_law_full_here", "_law_domain", "_law_value"]) (sc := (defScope (top 43))) (by decide +kernel)) (fun _ _ _ _ _ => pg_name (i := 4) sc_l_full.nd rfl (by first | exact .inl rfl | exact .inr rfl)) (tw_name 4) (fun _ => rfl) (by exact fun q290 _ _ _ _ _ b286 x287 s289 => t_out (pts_one (t_kd (c := fun (b_ : (Unit × ((Unit × Unit) × (List Int)))) => (decide (x287 ∈ b_.2.2))) (t_inL flInt (x_var (p := pInt x287) 4) (fun _ => x_kd (E := fun (b_ : ((Unit × Unit) × (List Int))) => (pL pInt) b_.2) (x_dget (κ := Str) (Ee := (pL pInt)) hr.units (x_var (p := (pM (κ := Str) (pL pInt)) a1) 0) (fun _ => x_kd (E := fun (b_ : Unit) => pStr x280.1) (x_fst (x_var (p := (pT2 pStr (pL pInt)) x280) 3))) (fun _ _ => rdMF))) (fun _ _ => rdF))))) (by exact fun q290 _ _ _ _ _ b286 x287 s289 _ => x_out (x_var (p := pInt x287) 4)))))) (fun _ => x_var (p := pV v277) 2) (fun _ _ => x_kd (E := fun (b_ : Unit) => pStr x280.1) (x_fst (x_var (p := (pT2 pStr (pL pInt)) x280) 3))) (fun _ _ _ => rfl) fun (b293 : (((Unit × ((List Int) × Unit)) × Unit) × Unit)) => s_end (dput (dput s279 (x280.1) (x280.2)) (x280.1) (b293.1.1.2.1)) rfl ⟨rfl, rfl, rfl, rfl, trivial⟩ (List.Sublist.refl _))) (fun (b284 : (Unit × Unit)) => s_end (dput s279 (x280.1) (x280.2)) rfl ⟨rfl, rfl, rfl, rfl, trivial⟩ (List.Sublist.refl _)) fun (b284 : (Unit × Unit)) s285 => s_end s285 rfl ⟨rfl, rfl, rfl, trivial⟩ (List.Sublist.refl _)))) fun b278 s281 => s_T (T := some s281) (s_retV 0 (P := (fun _ => [])) (Ro := (oM (κ := Str) (pL pInt))) (ι := id) (rv := fun _ => s281) (fun _ _ _ h => h) (x_var (p := pV v277) 2) (fun _ => rfl) (fun _ => List.Sublist.refl _))))) (by unfold M_l_full; rfl)
end
end My
end
section
set_option maxHeartbeats 4000000
set_option synthInstance.maxSize 2000
namespace My
open PySem PySem.Spec PyProof.Rows L2 L3
section
variable {P : Program} {w : World} {K : PySem.W.Frag} {mg : Str → Option Value} {base : Heap}
theorem sc_l_slim : FnScope ["_law_full_here", "_law_domains_here", "_law_slim_here", "_law_domain"] ["_law_full_here", "_law_domains_here"] (defScope (top 44)) := ⟨rfl, rfl, rfl, by decide +kernel, rfl, by decide +kernel, by decide +kernel⟩
theorem ok_l_slim {f : Addr} {fd : FuncData} (C : Ev P K mg) (FD : FnP K "_law_slim" (top 44) f fd)   : FnOk P w K mg base CX0 1 f fd ["_law_full_here", "_law_domains_here"] (Sp_FF_o (pM (κ := Str) (pL pInt)) (pL (pT2 pStr (pL pInt))) M_l_slim (oM (κ := Str) (pL pInt))) := by
  have m_len := C.m_len
  have m_list := C.m_list
  refine fn_FF_o FD sc_l_slim rfl fun cdv A outer s H E hr  a1 a2 => ?_
  exact s_is (s_T (T := (some (([] : List (Str × List Int)) : List (Str × List Int))).bind fun x294 => (forS a2 (x294 : (List (Str × List Int))) fun x300 s299 => (dget a1 (x300.1)).bind fun x303 => (if (decide ((x303.length : Int) < ((x300.2).length : Int))) = true then (dget a1 (x300.1)).bind fun x306 => grd (s299.length < sizeLine) (some (dput s299 (x300.1) x306)) else some s299).bind fun s305 => some s305).bind fun s301 => some s301) (s_letO (i := 2) (oM (κ := Str) (pL pInt)) sc_l_slim.nd (o_kd (E := fun (b_ : Unit) => (oM (κ := Str) (pL pInt)) ([] : List (Str × List Int))) (x_dict0 (κ := Str) (pL pInt))) fun (b295 : Unit) x294 v297 => s_T (T := (forS a2 (x294 : (List (Str × List Int))) fun x300 s299 => (dget a1 (x300.1)).bind fun x303 => (if (decide ((x303.length : Int) < ((x300.2).length : Int))) = true then (dget a1 (x300.1)).bind fun x306 => grd (s299.length < sizeLine) (some (dput s299 (x300.1) x306)) else some s299).bind fun s305 => some s305).bind fun s301 => some s301) (s_forS PassesOwn.never (fun (b_ : Unit) (s_ : (List (Str × List Int))) => ([some ((pM (κ := Str) (pL pInt)) a1), some ((pL (pT2 pStr (pL pInt))) a2), some (pV v297), none], [⟨v297, (oM (κ := Str) (pL pInt)) s_, none⟩])) (fun (b_ : Unit) => x294) (i_list (x_var (p := (pL (pT2 pStr (pL pInt))) a2) 1)) (pg_name (i := 3) sc_l_slim.nd rfl (by first | exact .inl rfl | exact .inr rfl)) (tg_name 3) (fun _ => ⟨rfl, rfl, rfl, trivial⟩) (fun _ => List.Sublist.refl _) (fun b298 x300 s299 => s_T (T := (dget a1 (x300.1)).bind fun x303 => (if (decide ((x303.length : Int) < ((x300.2).length : Int))) = true then (dget a1 (x300.1)).bind fun x306 => grd (s299.length < sizeLine) (some (dput s299 (x300.1) x306)) else some s299).bind fun s305 => some s305) (s_ifN (C := fun s_ : (List (Str × List Int)) => ([some ((pM (κ := Str) (pL pInt)) a1), some ((pL (pT2 pStr (pL pInt))) a2), some (pV v297), some ((pT2 pStr (pL pInt)) x300)], [⟨v297, (oM (κ := Str) (pL pInt)) s_, none⟩])) (t_kd (c := fun (b_ : (((Unit × Unit) × (List Int)) × Unit)) => (decide ((b_.1.2.length : Int) < ((x300.2).length : Int)))) (t_lt (x_kd (E := fun (b_ : ((Unit × Unit) × (List Int))) => pInt (b_.2.length : Int)) (x_lenL (Ee := pInt) m_len (x_kd (E := fun (b_ : ((Unit × Unit) × (List Int))) => (pL pInt) b_.2) (x_dget (κ := Str) (Ee := (pL pInt)) hr.units (x_var (p := (pM (κ := Str) (pL pInt)) a1) 0) (fun _ => x_kd (E := fun (b_ : Unit) => pStr x300.1) (x_fst (x_var (p := (pT2 pStr (pL pInt)) x300) 3))) (fun _ _ => rdMF))) (fun _ => rdF))) (fun _ => x_kd (E := fun (b_ : Unit) => pInt ((x300.2).length : Int)) (x_lenL (Ee := pInt) m_len (x_kd (E := fun (b_ : Unit) => (pL pInt) x300.2) (x_snd (x_var (p := (pT2 pStr (pL pInt)) x300) 3))) (fun _ => rdF))))) (fun (b304 : (((Unit × Unit) × (List Int)) × Unit)) => s_T (T := (dget a1 (x300.1)).bind fun x306 => grd (s299.length < sizeLine) (some (dput s299 (x300.1) x306))) (s_dput (κ := Str) (Ee := (pL pInt)) 0 hr.units (x_kd (E := fun (b_ : ((Unit × Unit) × (List Int))) => (pL pInt) b_.2) (x_frz (o_kd (E := fun (b_ : ((Unit × Unit) × (List Int))) => (oL pInt) b_.2) (x_listL (Ee := pInt) m_list (x_kd (E := fun (b_ : ((Unit × Unit) × (List Int))) => (pL pInt) b_.2) (x_dget (κ := Str) (Ee := (pL pInt)) hr.units (x_var (p := (pM (κ := Str) (pL pInt)) a1) 0) (fun _ => x_kd (E := fun (b_ : Unit) => pStr x300.1) (x_fst (x_var (p := (pT2 pStr (pL pInt)) x300) 3))) (fun _ _ => rdMF))) (fun _ => rdF))))) (fun _ => x_var (p := pV v297) 2) (fun _ _ => x_kd (E := fun (b_ : Unit) => pStr x300.1) (x_fst (x_var (p := (pT2 pStr (pL pInt)) x300) 3))) (fun _ _ _ => rfl) fun (b307 : ((((Unit × Unit) × (List Int)) × Unit) × Unit)) => s_end (dput s299 (x300.1) b307.1.1.2) rfl ⟨rfl, rfl, rfl, rfl, trivial⟩ (List.Sublist.refl _))) (fun (b304 : (((Unit × Unit) × (List Int)) × Unit)) => s_end s299 rfl ⟨rfl, rfl, rfl, rfl, trivial⟩ (List.Sublist.refl _)) fun (b304 : (((Unit × Unit) × (List Int)) × Unit)) s305 => s_end s305 rfl ⟨rfl, rfl, rfl, trivial⟩ (List.Sublist.refl _))) fun b298 s301 => s_T (T := some s301) (s_retV 0 (P := (fun _ => [])) (Ro := (oM (κ := Str) (pL pInt))) (ι := id) (rv := fun _ => s301) (fun _ _ _ h => h) (x_var (p := pV v297) 2) (fun _ => rfl) (fun _ => List.Sublist.refl _))))) (by unfold M_l_slim; rfl)
end
end My
end
section
set_option maxHeartbeats 4000000
set_option synthInstance.maxSize 2000
namespace My
open PySem PySem.Spec PyProof.Rows L2 L3
section
variable {P : Program} {w : World} {K : PySem.W.Frag} {mg : Str → Option Value} {base : Heap}
theorem sc_l_copied : FnScope ["_law_sides", "_law_copied_here", "_law_name"] ["_law_sides"] (defScope (top 45)) := ⟨rfl, rfl, rfl, by decide +kernel, rfl, by decide +kernel, by decide +kernel⟩
theorem ok_l_copied {f : Addr} {fd : FuncData} (C : Ev P K mg) (FD : FnP K "_law_copied" (top 45) f fd)   : FnOk P w K mg base CX0 1 f fd ["_law_sides"] (Sp_F_o (pM (κ := Str) (pL pInt)) M_l_copied (oM (κ := Str) (pL pInt))) := by
  have m_list := C.m_list
  refine fn_F_o FD sc_l_copied rfl fun cdv A outer s H E hr  a1 => ?_
  exact s_is (s_T (T := (some (([] : List (Str × List Int)) : List (Str × List Int))).bind fun x308 => (forS (a1.map Prod.fst) (x308 : (List (Str × List Int))) fun x314 s313 => (dget a1 x314).bind fun x317 => grd (s313.length < sizeLine) (some (dput s313 x314 x317))).bind fun s315 => some s315) (s_letO (i := 1) (oM (κ := Str) (pL pInt)) sc_l_copied.nd (o_kd (E := fun (b_ : Unit) => (oM (κ := Str) (pL pInt)) ([] : List (Str × List Int))) (x_dict0 (κ := Str) (pL pInt))) fun (b309 : Unit) x308 v311 => s_T (T := (forS (a1.map Prod.fst) (x308 : (List (Str × List Int))) fun x314 s313 => (dget a1 x314).bind fun x317 => grd (s313.length < sizeLine) (some (dput s313 x314 x317))).bind fun s315 => some s315) (s_forS PassesOwn.never (fun (b_ : Unit) (s_ : (List (Str × List Int))) => ([some ((pM (κ := Str) (pL pInt)) a1), some (pV v311), none], [⟨v311, (oM (κ := Str) (pL pInt)) s_, none⟩])) (fun (b_ : Unit) => x308) (i_mkeys (κ := Str) (x_var (p := (pM (κ := Str) (pL pInt)) a1) 0)) (pg_name (i := 2) sc_l_copied.nd rfl (by first | exact .inl rfl | exact .inr rfl)) (tg_name 2) (fun _ => ⟨rfl, rfl, trivial⟩) (fun _ => List.Sublist.refl _) (fun b312 x314 s313 => s_T (T := (dget a1 x314).bind fun x317 => grd (s313.length < sizeLine) (some (dput s313 x314 x317))) (s_dput (κ := Str) (Ee := (pL pInt)) 0 hr.units (x_kd (E := fun (b_ : ((Unit × Unit) × (List Int))) => (pL pInt) b_.2) (x_frz (o_kd (E := fun (b_ : ((Unit × Unit) × (List Int))) => (oL pInt) b_.2) (x_listL (Ee := pInt) m_list (x_kd (E := fun (b_ : ((Unit × Unit) × (List Int))) => (pL pInt) b_.2) (x_dget (κ := Str) (Ee := (pL pInt)) hr.units (x_var (p := (pM (κ := Str) (pL pInt)) a1) 0) (fun _ => x_var (p := pStr x314) 2) (fun _ _ => rdMF))) (fun _ => rdF))))) (fun _ => x_var (p := pV v311) 1) (fun _ _ => x_var (p := pStr x314) 2) (fun _ _ _ => rfl) fun (b318 : ((((Unit × Unit) × (List Int)) × Unit) × Unit)) => s_end (dput s313 x314 b318.1.1.2) rfl ⟨rfl, rfl, trivial⟩ (List.Sublist.refl _))) fun b312 s315 => s_T (T := some s315) (s_retV 0 (P := (fun _ => [])) (Ro := (oM (κ := Str) (pL pInt))) (ι := id) (rv := fun _ => s315) (fun _ _ _ h => h) (x_var (p := pV v311) 1) (fun _ => rfl) (fun _ => List.Sublist.refl _))))) (by unfold M_l_copied; rfl)
end
end My
end
section
set_option maxHeartbeats 4000000
set_option synthInstance.maxSize 2000
namespace My
open PySem PySem.Spec PyProof.Rows L2 L3
section
variable {P : Program} {w : World} {K : PySem.W.Frag} {mg : Str → Option Value} {base : Heap}
theorem sc_l_new : FnScope ["_law_told", "_law_expected", "_law_name"] ["_law_told", "_law_expected"] (defScope (top 46)) := ⟨rfl, rfl, rfl, by decide +kernel, rfl, by decide +kernel, by decide +kernel⟩
theorem ok_l_new {f : Addr} {fd : FuncData} (C : Ev P K mg) (FD : FnP K "_law_new" (top 46) f fd)   : FnOk P w K mg base CX0 1 f fd ["_law_told", "_law_expected"] (Sp_OF_f (oMO (κ := Str) (oL pInt)) (pM (κ := Str) (pL pInt)) M_l_new pBl) := by
  refine fn_OF_f FD sc_l_new rfl fun cdv A outer s H E hr v1 G1 a1 a2 => ?_
  exact s_is (s_T (T := (forS (a2.map Prod.fst) (a1 : (List (Str × List Int))) fun x321 s320 => (dget s320 x321).bind fun x330 => grd (x330.length < sizeLine) (some (dput s320 x321 (x330 ++ [((10 : Int) ^ (13 : Int).toNat)])))).bind fun s322 => (forL (a2.map Prod.fst) (() : Unit) fun x325 s324 => (dget s322 x325).bind fun x327 => (dget a2 x325).bind fun x328 => grd (x328.length + ([((10 : Int) ^ (13 : Int).toNat)]).length ≤ sizeLine) (if (!decide (x327 = (x328 ++ ([((10 : Int) ^ (13 : Int).toNat)])))) = true then inB (some (Tm.rt (false, s322))) else some (Bo.nx ()))).bind (boK (fun s326 => some (true, s322)) id)) (s_forS PassesOwn.never (fun (b_ : Unit) (s_ : (List (Str × List Int))) => ([some (pV v1), some ((pM (κ := Str) (pL pInt)) a2), none], [⟨v1, (oMO (κ := Str) (oL pInt)) s_, some 0⟩])) (fun (b_ : Unit) => a1) (i_mkeys (κ := Str) (x_var (p := (pM (κ := Str) (pL pInt)) a2) 1)) (pg_name (i := 2) sc_l_new.nd rfl (by first | exact .inl rfl | exact .inr rfl)) (tg_name 2) (fun _ => ⟨rfl, rfl, trivial⟩) (fun _ => List.Sublist.refl _) (fun b319 x321 s320 => s_T (T := (dget s320 x321).bind fun x330 => grd (x330.length < sizeLine) (some (dput s320 x321 (x330 ++ [((10 : Int) ^ (13 : Int).toNat)])))) (s_expr (x_appF 0 (f_key (κ := Str) (D := (oL pInt)) 0 hr.units (f_var (D := (oMO (κ := Str) (oL pInt))) (x_var (p := pV v1) 0)) (fun _ => x_var (p := pStr x321) 2)) (fun _ => x_kd (E := fun (b_ : (Unit × Unit)) => pInt ((10 : Int) ^ (13 : Int).toNat)) (x_pow (x_int (i := 10)) (fun _ => x_int (i := 13)) (fun _ _ => by decide)))) fun (b331 : (((Unit × Unit) × (List Int)) × (Unit × Unit))) => s_end (dput s320 x321 (b331.1.2 ++ [((10 : Int) ^ (13 : Int).toNat)])) rfl ⟨rfl, rfl, trivial⟩ (List.Sublist.refl _))) fun b319 s322 => s_T (T := (forL (a2.map Prod.fst) (() : Unit) fun x325 s324 => (dget s322 x325).bind fun x327 => (dget a2 x325).bind fun x328 => grd (x328.length + ([((10 : Int) ^ (13 : Int).toNat)]).length ≤ sizeLine) (if (!decide (x327 = (x328 ++ ([((10 : Int) ^ (13 : Int).toNat)])))) = true then inB (some (Tm.rt (false, s322))) else some (Bo.nx ()))).bind (boK (fun s326 => some (true, s322)) id)) (s_for PassesOwn.never (fun (b_ : Unit) (s_ : Unit) => ([some (pV v1), some ((pM (κ := Str) (pL pInt)) a2), none], [⟨v1, (oMO (κ := Str) (oL pInt)) s322, some 0⟩])) (fun (b_ : Unit) => ()) (ι := id) (R := (RF ⟨H, [G1]⟩ (fun (r : Bool × (List (Str × List Int))) => [⟨v1, (oMO (κ := Str) (oL pInt)) r.2, some 0⟩]) (fun (r : Bool × (List (Str × List Int))) => pBl r.1))) (i_mkeys (κ := Str) (x_var (p := (pM (κ := Str) (pL pInt)) a2) 1)) (pg_name (i := 2) sc_l_new.nd rfl (by first | exact .inl rfl | exact .inr rfl)) (tg_name 2) (fun _ => ⟨rfl, rfl, trivial⟩) (fun _ => List.Sublist.refl _) (fun b323 x325 s324 => s_T (T := (dget s322 x325).bind fun x327 => (dget a2 x325).bind fun x328 => grd (x328.length + ([((10 : Int) ^ (13 : Int).toNat)]).length ≤ sizeLine) (if (!decide (x327 = (x328 ++ ([((10 : Int) ^ (13 : Int).toNat)])))) = true then inB (some (Tm.rt (false, s322))) else some (Bo.nx ()))) (s_ifB ins_T (t_kd (c := fun (b_ : (((Unit × Unit) × (List Int)) × (((Unit × Unit) × (List Int)) × ((Unit × Unit) × Unit)))) => (!decide (b_.1.2 = (b_.2.1.2 ++ ([((10 : Int) ^ (13 : Int).toNat)]))))) (t_lockG (d := (oMO (κ := Str) (oL pInt)) s322) 0 0 (by exact t_dl (t_neL hr.units dtInt (x_kd (E := fun (b_ : ((Unit × Unit) × (List Int))) => (pL pInt) b_.2) (x_dget (κ := Str) (Ee := (pL pInt)) hr.units (x_var (p := (pM (κ := Str) (pL pInt)) s322) 0) (fun _ => x_var (p := pStr x325) 2) (fun _ _ => rdMF))) (fun _ => x_kd (E := fun (b_ : (((Unit × Unit) × (List Int)) × ((Unit × Unit) × Unit))) => (pL pInt) (b_.1.2 ++ ([((10 : Int) ^ (13 : Int).toNat)]))) (x_frz (o_kd (E := fun (b_ : (((Unit × Unit) × (List Int)) × ((Unit × Unit) × Unit))) => (oL pInt) (b_.1.2 ++ ([((10 : Int) ^ (13 : Int).toNat)]))) (x_cat (Ee := pInt) (x_kd (E := fun (b_ : ((Unit × Unit) × (List Int))) => (pL pInt) b_.2) (x_dget (κ := Str) (Ee := (pL pInt)) hr.units (x_var (p := (pM (κ := Str) (pL pInt)) a2) 1) (fun _ => x_var (p := pStr x325) 2) (fun _ _ => rdMF))) (fun _ => x_kd (E := fun (b_ : ((Unit × Unit) × Unit)) => (pL pInt) ([((10 : Int) ^ (13 : Int).toNat)])) (x_frz (o_kd (E := fun (b_ : ((Unit × Unit) × Unit)) => (oL pInt) ([((10 : Int) ^ (13 : Int).toNat)])) (x_disp pInt (fun _ => [_]) (a_cons (x_kd (E := fun (b_ : (Unit × Unit)) => pInt ((10 : Int) ^ (13 : Int).toNat)) (x_pow (x_int (i := 10)) (fun _ => x_int (i := 13)) (fun _ _ => by decide))) (fun _ => a_nil)) (fun _ => rfl) (fun _ => by simp))))) (fun _ _ => rdF) (fun _ _ => rdF))))) (fun _ _ => rdF) (fun _ _ => rdF))))) (fun (b329 : (((Unit × Unit) × (List Int)) × (((Unit × Unit) × (List Int)) × ((Unit × Unit) × Unit)))) => s_T (T := some (Tm.rt (false, s322))) (s_ret (P := (fun (r : Bool × (List (Str × List Int))) => [⟨v1, (oMO (κ := Str) (oL pInt)) r.2, some 0⟩])) (Rp := (fun (r : Bool × (List (Str × List Int))) => pBl r.1)) (ι := Tm.rt) (rv := fun (b : Unit) => (false, s322)) (fun _ _ _ h => h) x_bl (fun _ => List.Sublist.refl _))) fun (b329 : (((Unit × Unit) × (List Int)) × (((Unit × Unit) × (List Int)) × ((Unit × Unit) × Unit)))) => s_endB () ⟨rfl, rfl, trivial⟩ (List.Sublist.refl _))) (fun b323 s326 => s_T (T := some (true, s322)) (s_ret (P := (fun (r : Bool × (List (Str × List Int))) => [⟨v1, (oMO (κ := Str) (oL pInt)) r.2, some 0⟩])) (Rp := (fun (r : Bool × (List (Str × List Int))) => pBl r.1)) (ι := id) (rv := fun (b : Unit) => (true, s322)) (fun _ _ _ h => h) x_bl (fun _ => List.Sublist.refl _))) (fun _ _ _ h => h)))) (by unfold M_l_new; rfl)
end
end My
end
section
set_option maxHeartbeats 4000000
set_option synthInstance.maxSize 2000
namespace My
open PySem PySem.Spec PyProof.Rows L2 L3
section
variable {P : Program} {w : World} {K : PySem.W.Frag} {mg : Str → Option Value} {base : Heap}
theorem sc_l_formed : FnScope ["_law_sides", "_law_domains_here", "_law_full_here", "_law_slim_here", "_law_passed", "_law_given", "_law_turn", "_law_told", "_law_short", "_law_longer", "_law_shorter", "_law_k", "_law_domain"] ["_law_sides", "_law_domains_here"] (defScope (top 47)) := ⟨rfl, rfl, rfl, by decide +kernel, rfl, by decide +kernel, by decide +kernel⟩
theorem ok_l_formed {f : Addr} {fd : FuncData} (C : Ev P K mg) (FD : FnP K "_law_formed" (top 47) f fd)   : FnOk P w K mg base CX0 4 f fd ["_law_sides", "_law_domains_here"] (Sp_FF_f (pM (κ := Str) (pL pInt)) (pL (pT2 pStr (pL pInt))) M_l_formed pBl) := by
  have m_list := C.m_list
  have m_range := C.m_range
  obtain ⟨f_l_full, fd_l_full, F_l_full, g_l_full⟩ := C.f_l_full
  have k_l_full := ok_l_full (P := P) (w := w) (base := base) C F_l_full
  have b_l_full : Binds K fd_l_full ["_law_sides", "_law_domains_here"] [] := F_l_full.bindsN fun _ _ _ _ _ _ us hl => match us, hl with | [_, _], _ => rfl
  obtain ⟨f_l_slim, fd_l_slim, F_l_slim, g_l_slim⟩ := C.f_l_slim
  have k_l_slim := ok_l_slim (P := P) (w := w) (base := base) C F_l_slim
  have b_l_slim : Binds K fd_l_slim ["_law_full_here", "_law_domains_here"] [] := F_l_slim.bindsN fun _ _ _ _ _ _ us hl => match us, hl with | [_, _], _ => rfl
  obtain ⟨f_l_copied, fd_l_copied, F_l_copied, g_l_copied⟩ := C.f_l_copied
  have k_l_copied := ok_l_copied (P := P) (w := w) (base := base) C F_l_copied
  have b_l_copied : Binds K fd_l_copied ["_law_sides"] [] := F_l_copied.bindsN fun _ _ _ _ _ _ us hl => match us, hl with | [_], _ => rfl
  obtain ⟨f_filled, fd_filled, F_filled, g_filled⟩ := C.f_filled
  have k_filled := ok_filled (P := P) (w := w) (base := base) C F_filled
  have b_filled : Binds K fd_filled ["box", "domains"] [] := F_filled.bindsN fun _ _ _ _ _ _ us hl => match us, hl with | [_, _], _ => rfl
  obtain ⟨f_trimmed, fd_trimmed, F_trimmed, g_trimmed⟩ := C.f_trimmed
  have k_trimmed := ok_trimmed (P := P) (w := w) (base := base) C F_trimmed
  have b_trimmed : Binds K fd_trimmed ["box", "domains"] [] := F_trimmed.bindsN fun _ _ _ _ _ _ us hl => match us, hl with | [_, _], _ => rfl
  obtain ⟨f_l_same_sides, fd_l_same_sides, F_l_same_sides, g_l_same_sides⟩ := C.f_l_same_sides
  have k_l_same_sides := ok_l_same_sides (P := P) (w := w) (base := base) C F_l_same_sides
  have b_l_same_sides : Binds K fd_l_same_sides ["_law_actual", "_law_expected"] [] := F_l_same_sides.bindsN fun _ _ _ _ _ _ us hl => match us, hl with | [_, _], _ => rfl
  obtain ⟨f_l_new, fd_l_new, F_l_new, g_l_new⟩ := C.f_l_new
  have k_l_new := ok_l_new (P := P) (w := w) (base := base) C F_l_new
  have b_l_new : Binds K fd_l_new ["_law_told", "_law_expected"] [] := F_l_new.bindsN fun _ _ _ _ _ _ us hl => match us, hl with | [_, _], _ => rfl
  refine fn_FF_f FD sc_l_formed rfl fun cdv A outer s H E hr  a1 a2 => ?_
  exact s_is (s_T (T := (M_l_full a1 a2).bind fun r332 => (some (r332 : List (Str × List Int))).bind fun x333 => (M_l_slim x333 a2).bind fun r335 => (some (r335 : List (Str × List Int))).bind fun x336 => (M_l_copied a1).bind fun r338 => (some (r338 : List (Str × List Int))).bind fun x339 => (some (((a2.filter fun x342 => true).map fun x342 => (x342.1, x342.2)) : List (Str × List Int))).bind fun x343 => grd (rg (2 : Int) = true) ((forL (rngL 0 (2 : Int).toNat) (() : Unit) fun x349 s348 => ((M_filled x339 x343).bind okx).bind fun r351 => (some (r351 : List (Str × List Int))).bind fun x352 => ((M_trimmed x339 x343).bind okx).bind fun r356 => (some (r356 : List (Str × List Int))).bind fun x357 => (M_l_same_sides x352 x333).bind fun r361 => ((if (!r361) = true then some (true, ()) else (M_l_same_sides x357 x336).bind fun r363 => some ((!r363), ()))).bind fun c364 => if c364.1 = true then inB (some (Tm.rt false)) else ((M_filled x357 x343).bind okx).bind fun r367 => ((M_filled x352 x343).bind okx).bind fun r369 => (some (((), r367, r369) : (Unit × List (Str × List Int) × List (Str × List Int)))).bind fun x371 => ((M_trimmed x352 x343).bind okx).bind fun r376 => ((M_trimmed x357 x343).bind okx).bind fun r378 => (some (((), r376, r378) : (Unit × List (Str × List Int) × List (Str × List Int)))).bind fun x380 => grd (rg (3 : Int) = true) ((forL (rngL 0 (3 : Int).toNat) (() : Unit) fun x386 s385 => (atI ([x352, x371.2.1, x371.2.2]) x386).bind fun x406 => (M_l_same_sides x406 x333).bind fun r407 => ((if (!r407) = true then some (true, ()) else (atI ([x357, x380.2.1, x380.2.2]) x386).bind fun x410 => (M_l_same_sides x410 x336).bind fun r411 => some ((!r411), ()))).bind fun c412 => if c412.1 = true then inB (some (Tm.rt false)) else some (Bo.nx ())).bind (boK (fun s387 => grd (rg (3 : Int) = true) ((forL (rngL 0 (3 : Int).toNat) (([x357, x380.2.1, x380.2.2], [x352, x371.2.1, x371.2.2]) : (List (List (Str × List Int))) × (List (List (Str × List Int)))) fun x390 s389 => (ixN (s389.2).length x390).bind fun m395 => ((s389.2)[m395]?).bind fun x396 => (M_l_new x396 x333).bind fun r397 => ((if (!(r397.1)) = true then some (true, s389.1) else (ixN (s389.1).length x390).bind fun m401 => ((s389.1)[m401]?).bind fun x402 => (M_l_new x402 x336).bind fun r403 => some ((!(r403.1)), ((s389.1).set m401 (r403.2))))).bind fun c404 => if c404.1 = true then inB (some (Tm.rt false)) else some (Bo.nx (c404.2, ((s389.2).set m395 (r397.2))))).bind (boK (fun s391 => ((if (!deq x339 a1) = true then some (true, ()) else grd (okG (dgL dgStr) (x339.map Prod.fst) (a1.map Prod.fst) = true) (((if (!decide ((x339.map Prod.fst) = (a1.map Prod.fst))) = true then some (true, ()) else grd (okG (dgL (dgT2 dgStr (dgL dgInt))) x343 a2 = true) (some ((!decide (x343 = a2)), ())))).bind fun c392 => some (c392.1, ())))).bind fun c393 => if c393.1 = true then inB (some (Tm.rt false)) else some (Bo.nx ())) (fun r => Bo.tm (Tm.rt r))))) (fun r => Bo.tm (Tm.rt r))))).bind (boK (fun s350 => some true) id))) (s_let (i := 2) (pM (κ := Str) (pL pInt)) sc_l_formed.nd (x_kd (E := fun (b_ : ((Unit × Unit) × (List (Str × List Int)))) => (pM (κ := Str) (pL pInt)) b_.2) (x_frz (o_kd (E := fun (b_ : ((Unit × Unit) × (List (Str × List Int)))) => (oM (κ := Str) (pL pInt)) b_.2) (x_FF_o (kk := 1) (E1 := (pM (κ := Str) (pL pInt))) (E2 := (pL (pT2 pStr (pL pInt)))) k_l_full (hr.mono (by decide)) g_l_full F_l_full.kp b_l_full (x_var (p := (pM (κ := Str) (pL pInt)) a1) 0) (fun _ => x_var (p := (pL (pT2 pStr (pL pInt))) a2) 1))))) fun (b334 : ((Unit × Unit) × (List (Str × List Int)))) x333 => s_T (T := (M_l_slim x333 a2).bind fun r335 => (some (r335 : List (Str × List Int))).bind fun x336 => (M_l_copied a1).bind fun r338 => (some (r338 : List (Str × List Int))).bind fun x339 => (some (((a2.filter fun x342 => true).map fun x342 => (x342.1, x342.2)) : List (Str × List Int))).bind fun x343 => grd (rg (2 : Int) = true) ((forL (rngL 0 (2 : Int).toNat) (() : Unit) fun x349 s348 => ((M_filled x339 x343).bind okx).bind fun r351 => (some (r351 : List (Str × List Int))).bind fun x352 => ((M_trimmed x339 x343).bind okx).bind fun r356 => (some (r356 : List (Str × List Int))).bind fun x357 => (M_l_same_sides x352 x333).bind fun r361 => ((if (!r361) = true then some (true, ()) else (M_l_same_sides x357 x336).bind fun r363 => some ((!r363), ()))).bind fun c364 => if c364.1 = true then inB (some (Tm.rt false)) else ((M_filled x357 x343).bind okx).bind fun r367 => ((M_filled x352 x343).bind okx).bind fun r369 => (some (((), r367, r369) : (Unit × List (Str × List Int) × List (Str × List Int)))).bind fun x371 => ((M_trimmed x352 x343).bind okx).bind fun r376 => ((M_trimmed x357 x343).bind okx).bind fun r378 => (some (((), r376, r378) : (Unit × List (Str × List Int) × List (Str × List Int)))).bind fun x380 => grd (rg (3 : Int) = true) ((forL (rngL 0 (3 : Int).toNat) (() : Unit) fun x386 s385 => (atI ([x352, x371.2.1, x371.2.2]) x386).bind fun x406 => (M_l_same_sides x406 x333).bind fun r407 => ((if (!r407) = true then some (true, ()) else (atI ([x357, x380.2.1, x380.2.2]) x386).bind fun x410 => (M_l_same_sides x410 x336).bind fun r411 => some ((!r411), ()))).bind fun c412 => if c412.1 = true then inB (some (Tm.rt false)) else some (Bo.nx ())).bind (boK (fun s387 => grd (rg (3 : Int) = true) ((forL (rngL 0 (3 : Int).toNat) (([x357, x380.2.1, x380.2.2], [x352, x371.2.1, x371.2.2]) : (List (List (Str × List Int))) × (List (List (Str × List Int)))) fun x390 s389 => (ixN (s389.2).length x390).bind fun m395 => ((s389.2)[m395]?).bind fun x396 => (M_l_new x396 x333).bind fun r397 => ((if (!(r397.1)) = true then some (true, s389.1) else (ixN (s389.1).length x390).bind fun m401 => ((s389.1)[m401]?).bind fun x402 => (M_l_new x402 x336).bind fun r403 => some ((!(r403.1)), ((s389.1).set m401 (r403.2))))).bind fun c404 => if c404.1 = true then inB (some (Tm.rt false)) else some (Bo.nx (c404.2, ((s389.2).set m395 (r397.2))))).bind (boK (fun s391 => ((if (!deq x339 a1) = true then some (true, ()) else grd (okG (dgL dgStr) (x339.map Prod.fst) (a1.map Prod.fst) = true) (((if (!decide ((x339.map Prod.fst) = (a1.map Prod.fst))) = true then some (true, ()) else grd (okG (dgL (dgT2 dgStr (dgL dgInt))) x343 a2 = true) (some ((!decide (x343 = a2)), ())))).bind fun c392 => some (c392.1, ())))).bind fun c393 => if c393.1 = true then inB (some (Tm.rt false)) else some (Bo.nx ())) (fun r => Bo.tm (Tm.rt r))))) (fun r => Bo.tm (Tm.rt r))))).bind (boK (fun s350 => some true) id))) (s_let (i := 3) (pM (κ := Str) (pL pInt)) sc_l_formed.nd (x_kd (E := fun (b_ : ((Unit × Unit) × (List (Str × List Int)))) => (pM (κ := Str) (pL pInt)) b_.2) (x_frz (o_kd (E := fun (b_ : ((Unit × Unit) × (List (Str × List Int)))) => (oM (κ := Str) (pL pInt)) b_.2) (x_FF_o (kk := 1) (E1 := (pM (κ := Str) (pL pInt))) (E2 := (pL (pT2 pStr (pL pInt)))) k_l_slim (hr.mono (by decide)) g_l_slim F_l_slim.kp b_l_slim (x_var (p := (pM (κ := Str) (pL pInt)) x333) 2) (fun _ => x_var (p := (pL (pT2 pStr (pL pInt))) a2) 1))))) fun (b337 : ((Unit × Unit) × (List (Str × List Int)))) x336 => s_T (T := (M_l_copied a1).bind fun r338 => (some (r338 : List (Str × List Int))).bind fun x339 => (some (((a2.filter fun x342 => true).map fun x342 => (x342.1, x342.2)) : List (Str × List Int))).bind fun x343 => grd (rg (2 : Int) = true) ((forL (rngL 0 (2 : Int).toNat) (() : Unit) fun x349 s348 => ((M_filled x339 x343).bind okx).bind fun r351 => (some (r351 : List (Str × List Int))).bind fun x352 => ((M_trimmed x339 x343).bind okx).bind fun r356 => (some (r356 : List (Str × List Int))).bind fun x357 => (M_l_same_sides x352 x333).bind fun r361 => ((if (!r361) = true then some (true, ()) else (M_l_same_sides x357 x336).bind fun r363 => some ((!r363), ()))).bind fun c364 => if c364.1 = true then inB (some (Tm.rt false)) else ((M_filled x357 x343).bind okx).bind fun r367 => ((M_filled x352 x343).bind okx).bind fun r369 => (some (((), r367, r369) : (Unit × List (Str × List Int) × List (Str × List Int)))).bind fun x371 => ((M_trimmed x352 x343).bind okx).bind fun r376 => ((M_trimmed x357 x343).bind okx).bind fun r378 => (some (((), r376, r378) : (Unit × List (Str × List Int) × List (Str × List Int)))).bind fun x380 => grd (rg (3 : Int) = true) ((forL (rngL 0 (3 : Int).toNat) (() : Unit) fun x386 s385 => (atI ([x352, x371.2.1, x371.2.2]) x386).bind fun x406 => (M_l_same_sides x406 x333).bind fun r407 => ((if (!r407) = true then some (true, ()) else (atI ([x357, x380.2.1, x380.2.2]) x386).bind fun x410 => (M_l_same_sides x410 x336).bind fun r411 => some ((!r411), ()))).bind fun c412 => if c412.1 = true then inB (some (Tm.rt false)) else some (Bo.nx ())).bind (boK (fun s387 => grd (rg (3 : Int) = true) ((forL (rngL 0 (3 : Int).toNat) (([x357, x380.2.1, x380.2.2], [x352, x371.2.1, x371.2.2]) : (List (List (Str × List Int))) × (List (List (Str × List Int)))) fun x390 s389 => (ixN (s389.2).length x390).bind fun m395 => ((s389.2)[m395]?).bind fun x396 => (M_l_new x396 x333).bind fun r397 => ((if (!(r397.1)) = true then some (true, s389.1) else (ixN (s389.1).length x390).bind fun m401 => ((s389.1)[m401]?).bind fun x402 => (M_l_new x402 x336).bind fun r403 => some ((!(r403.1)), ((s389.1).set m401 (r403.2))))).bind fun c404 => if c404.1 = true then inB (some (Tm.rt false)) else some (Bo.nx (c404.2, ((s389.2).set m395 (r397.2))))).bind (boK (fun s391 => ((if (!deq x339 a1) = true then some (true, ()) else grd (okG (dgL dgStr) (x339.map Prod.fst) (a1.map Prod.fst) = true) (((if (!decide ((x339.map Prod.fst) = (a1.map Prod.fst))) = true then some (true, ()) else grd (okG (dgL (dgT2 dgStr (dgL dgInt))) x343 a2 = true) (some ((!decide (x343 = a2)), ())))).bind fun c392 => some (c392.1, ())))).bind fun c393 => if c393.1 = true then inB (some (Tm.rt false)) else some (Bo.nx ())) (fun r => Bo.tm (Tm.rt r))))) (fun r => Bo.tm (Tm.rt r))))).bind (boK (fun s350 => some true) id))) (s_let (i := 4) (pM (κ := Str) (pL pInt)) sc_l_formed.nd (x_kd (E := fun (b_ : (Unit × (List (Str × List Int)))) => (pM (κ := Str) (pL pInt)) b_.2) (x_frz (o_kd (E := fun (b_ : (Unit × (List (Str × List Int)))) => (oM (κ := Str) (pL pInt)) b_.2) (x_F_o (kk := 1) (E1 := (pM (κ := Str) (pL pInt))) k_l_copied (hr.mono (by decide)) g_l_copied F_l_copied.kp b_l_copied (x_var (p := (pM (κ := Str) (pL pInt)) a1) 0))))) fun (b340 : (Unit × (List (Str × List Int)))) x339 => s_T (T := (some (((a2.filter fun x342 => true).map fun x342 => (x342.1, x342.2)) : List (Str × List Int))).bind fun x343 => grd (rg (2 : Int) = true) ((forL (rngL 0 (2 : Int).toNat) (() : Unit) fun x349 s348 => ((M_filled x339 x343).bind okx).bind fun r351 => (some (r351 : List (Str × List Int))).bind fun x352 => ((M_trimmed x339 x343).bind okx).bind fun r356 => (some (r356 : List (Str × List Int))).bind fun x357 => (M_l_same_sides x352 x333).bind fun r361 => ((if (!r361) = true then some (true, ()) else (M_l_same_sides x357 x336).bind fun r363 => some ((!r363), ()))).bind fun c364 => if c364.1 = true then inB (some (Tm.rt false)) else ((M_filled x357 x343).bind okx).bind fun r367 => ((M_filled x352 x343).bind okx).bind fun r369 => (some (((), r367, r369) : (Unit × List (Str × List Int) × List (Str × List Int)))).bind fun x371 => ((M_trimmed x352 x343).bind okx).bind fun r376 => ((M_trimmed x357 x343).bind okx).bind fun r378 => (some (((), r376, r378) : (Unit × List (Str × List Int) × List (Str × List Int)))).bind fun x380 => grd (rg (3 : Int) = true) ((forL (rngL 0 (3 : Int).toNat) (() : Unit) fun x386 s385 => (atI ([x352, x371.2.1, x371.2.2]) x386).bind fun x406 => (M_l_same_sides x406 x333).bind fun r407 => ((if (!r407) = true then some (true, ()) else (atI ([x357, x380.2.1, x380.2.2]) x386).bind fun x410 => (M_l_same_sides x410 x336).bind fun r411 => some ((!r411), ()))).bind fun c412 => if c412.1 = true then inB (some (Tm.rt false)) else some (Bo.nx ())).bind (boK (fun s387 => grd (rg (3 : Int) = true) ((forL (rngL 0 (3 : Int).toNat) (([x357, x380.2.1, x380.2.2], [x352, x371.2.1, x371.2.2]) : (List (List (Str × List Int))) × (List (List (Str × List Int)))) fun x390 s389 => (ixN (s389.2).length x390).bind fun m395 => ((s389.2)[m395]?).bind fun x396 => (M_l_new x396 x333).bind fun r397 => ((if (!(r397.1)) = true then some (true, s389.1) else (ixN (s389.1).length x390).bind fun m401 => ((s389.1)[m401]?).bind fun x402 => (M_l_new x402 x336).bind fun r403 => some ((!(r403.1)), ((s389.1).set m401 (r403.2))))).bind fun c404 => if c404.1 = true then inB (some (Tm.rt false)) else some (Bo.nx (c404.2, ((s389.2).set m395 (r397.2))))).bind (boK (fun s391 => ((if (!deq x339 a1) = true then some (true, ()) else grd (okG (dgL dgStr) (x339.map Prod.fst) (a1.map Prod.fst) = true) (((if (!decide ((x339.map Prod.fst) = (a1.map Prod.fst))) = true then some (true, ()) else grd (okG (dgL (dgT2 dgStr (dgL dgInt))) x343 a2 = true) (some ((!decide (x343 = a2)), ())))).bind fun c392 => some (c392.1, ())))).bind fun c393 => if c393.1 = true then inB (some (Tm.rt false)) else some (Bo.nx ())) (fun r => Bo.tm (Tm.rt r))))) (fun r => Bo.tm (Tm.rt r))))).bind (boK (fun s350 => some true) id))) (s_letOA (i := 5) (oL (pT2 pStr (pL pInt))) (a_lcT (i := 5) (own := [("_law_domain", 12)]) sc_l_formed.nd (i_list (x_var (p := (pL (pT2 pStr (pL pInt))) a2) 1)) (blkOk_by (own := [("_law_domain", 12)]) (N := ["_law_sides", "_law_domains_here", "_law_full_here", "_law_slim_here", "_law_passed", "_law_given", "_law_turn", "_law_told", "_law_short", "_law_longer", "_law_shorter", "_law_k", "_law_domain"]) (sc := (defScope (top 47))) (by decide +kernel)) (fun _ _ _ _ _ => pg_name (i := 12) sc_l_formed.nd rfl (by first | exact .inl rfl | exact .inr rfl)) (tw_name 12) (fun _ _ _ _ _ _ b341 x342 _ _ => pts_T) (fun _ _ _ _ _ _ b341 x342 _ _ => (x_totV ((pT2 pStr (pL pInt)) («x342».1, «x342».2)) ((), ((), ())) (fun _ => rfl) (by exact (x_kd (E := fun (b_ : (Unit × (Unit × Unit))) => (pT2 pStr (pL pInt)) (x342.1, x342.2)) (x_tp2 pStr (pL pInt) (fun (b : (Unit × (Unit × Unit))) => x342.1) (fun (b : (Unit × (Unit × Unit))) => x342.2) (pa_kd (a_cons (x_kd (E := fun (b_ : Unit) => pStr x342.1) (x_fst (y_var (p := (pT2 pStr (pL pInt)) x342) 12))) (fun _ => a_cons (x_kd (E := fun (b_ : Unit) => (pL pInt) x342.2) (x_frz (o_kd (E := fun (b_ : Unit) => (oL pInt) x342.2) (x_listL (Ee := pInt) m_list (x_kd (E := fun (b_ : Unit) => (pL pInt) x342.2) (x_snd (y_var (p := (pT2 pStr (pL pInt)) x342) 12))) (fun _ => rdF))))) (fun _ => b_nil))))))))) (sw_true rfl rfl rfl (by decide +kernel))) fun (b344 : Unit) x343 v346 => s_frz (i := 5) (c := ⟨v346, (oL (pT2 pStr (pL pInt))) x343, none⟩) 0 (s_T (T := grd (rg (2 : Int) = true) ((forL (rngL 0 (2 : Int).toNat) (() : Unit) fun x349 s348 => ((M_filled x339 x343).bind okx).bind fun r351 => (some (r351 : List (Str × List Int))).bind fun x352 => ((M_trimmed x339 x343).bind okx).bind fun r356 => (some (r356 : List (Str × List Int))).bind fun x357 => (M_l_same_sides x352 x333).bind fun r361 => ((if (!r361) = true then some (true, ()) else (M_l_same_sides x357 x336).bind fun r363 => some ((!r363), ()))).bind fun c364 => if c364.1 = true then inB (some (Tm.rt false)) else ((M_filled x357 x343).bind okx).bind fun r367 => ((M_filled x352 x343).bind okx).bind fun r369 => (some (((), r367, r369) : (Unit × List (Str × List Int) × List (Str × List Int)))).bind fun x371 => ((M_trimmed x352 x343).bind okx).bind fun r376 => ((M_trimmed x357 x343).bind okx).bind fun r378 => (some (((), r376, r378) : (Unit × List (Str × List Int) × List (Str × List Int)))).bind fun x380 => grd (rg (3 : Int) = true) ((forL (rngL 0 (3 : Int).toNat) (() : Unit) fun x386 s385 => (atI ([x352, x371.2.1, x371.2.2]) x386).bind fun x406 => (M_l_same_sides x406 x333).bind fun r407 => ((if (!r407) = true then some (true, ()) else (atI ([x357, x380.2.1, x380.2.2]) x386).bind fun x410 => (M_l_same_sides x410 x336).bind fun r411 => some ((!r411), ()))).bind fun c412 => if c412.1 = true then inB (some (Tm.rt false)) else some (Bo.nx ())).bind (boK (fun s387 => grd (rg (3 : Int) = true) ((forL (rngL 0 (3 : Int).toNat) (([x357, x380.2.1, x380.2.2], [x352, x371.2.1, x371.2.2]) : (List (List (Str × List Int))) × (List (List (Str × List Int)))) fun x390 s389 => (ixN (s389.2).length x390).bind fun m395 => ((s389.2)[m395]?).bind fun x396 => (M_l_new x396 x333).bind fun r397 => ((if (!(r397.1)) = true then some (true, s389.1) else (ixN (s389.1).length x390).bind fun m401 => ((s389.1)[m401]?).bind fun x402 => (M_l_new x402 x336).bind fun r403 => some ((!(r403.1)), ((s389.1).set m401 (r403.2))))).bind fun c404 => if c404.1 = true then inB (some (Tm.rt false)) else some (Bo.nx (c404.2, ((s389.2).set m395 (r397.2))))).bind (boK (fun s391 => ((if (!deq x339 a1) = true then some (true, ()) else grd (okG (dgL dgStr) (x339.map Prod.fst) (a1.map Prod.fst) = true) (((if (!decide ((x339.map Prod.fst) = (a1.map Prod.fst))) = true then some (true, ()) else grd (okG (dgL (dgT2 dgStr (dgL dgInt))) x343 a2 = true) (some ((!decide (x343 = a2)), ())))).bind fun c392 => some (c392.1, ())))).bind fun c393 => if c393.1 = true then inB (some (Tm.rt false)) else some (Bo.nx ())) (fun r => Bo.tm (Tm.rt r))))) (fun r => Bo.tm (Tm.rt r))))).bind (boK (fun s350 => some true) id))) (s_for PassesOwn.never (fun (b_ : Unit) (s_ : Unit) => ([some ((pM (κ := Str) (pL pInt)) a1), some ((pL (pT2 pStr (pL pInt))) a2), some ((pM (κ := Str) (pL pInt)) x333), some ((pM (κ := Str) (pL pInt)) x336), some ((pM (κ := Str) (pL pInt)) x339), some ((pL (pT2 pStr (pL pInt))) x343), none, none, none, none, none, none, none], [])) (fun (b_ : Unit) => ()) (ι := id) (R := (RF ⟨H, []⟩ (fun _ => []) pBl)) (i_rng1 m_range (x_int (i := 2))) (pg_name (i := 6) sc_l_formed.nd rfl (by first | exact .inl rfl | exact .inr rfl)) (tg_name 6) (fun _ => ⟨rfl, rfl, rfl, rfl, rfl, rfl, trivial⟩) (fun _ => List.Sublist.refl _) (fun b347 x349 s348 => s_T (T := ((M_filled x339 x343).bind okx).bind fun r351 => (some (r351 : List (Str × List Int))).bind fun x352 => ((M_trimmed x339 x343).bind okx).bind fun r356 => (some (r356 : List (Str × List Int))).bind fun x357 => (M_l_same_sides x352 x333).bind fun r361 => ((if (!r361) = true then some (true, ()) else (M_l_same_sides x357 x336).bind fun r363 => some ((!r363), ()))).bind fun c364 => if c364.1 = true then inB (some (Tm.rt false)) else ((M_filled x357 x343).bind okx).bind fun r367 => ((M_filled x352 x343).bind okx).bind fun r369 => (some (((), r367, r369) : (Unit × List (Str × List Int) × List (Str × List Int)))).bind fun x371 => ((M_trimmed x352 x343).bind okx).bind fun r376 => ((M_trimmed x357 x343).bind okx).bind fun r378 => (some (((), r376, r378) : (Unit × List (Str × List Int) × List (Str × List Int)))).bind fun x380 => grd (rg (3 : Int) = true) ((forL (rngL 0 (3 : Int).toNat) (() : Unit) fun x386 s385 => (atI ([x352, x371.2.1, x371.2.2]) x386).bind fun x406 => (M_l_same_sides x406 x333).bind fun r407 => ((if (!r407) = true then some (true, ()) else (atI ([x357, x380.2.1, x380.2.2]) x386).bind fun x410 => (M_l_same_sides x410 x336).bind fun r411 => some ((!r411), ()))).bind fun c412 => if c412.1 = true then inB (some (Tm.rt false)) else some (Bo.nx ())).bind (boK (fun s387 => grd (rg (3 : Int) = true) ((forL (rngL 0 (3 : Int).toNat) (([x357, x380.2.1, x380.2.2], [x352, x371.2.1, x371.2.2]) : (List (List (Str × List Int))) × (List (List (Str × List Int)))) fun x390 s389 => (ixN (s389.2).length x390).bind fun m395 => ((s389.2)[m395]?).bind fun x396 => (M_l_new x396 x333).bind fun r397 => ((if (!(r397.1)) = true then some (true, s389.1) else (ixN (s389.1).length x390).bind fun m401 => ((s389.1)[m401]?).bind fun x402 => (M_l_new x402 x336).bind fun r403 => some ((!(r403.1)), ((s389.1).set m401 (r403.2))))).bind fun c404 => if c404.1 = true then inB (some (Tm.rt false)) else some (Bo.nx (c404.2, ((s389.2).set m395 (r397.2))))).bind (boK (fun s391 => ((if (!deq x339 a1) = true then some (true, ()) else grd (okG (dgL dgStr) (x339.map Prod.fst) (a1.map Prod.fst) = true) (((if (!decide ((x339.map Prod.fst) = (a1.map Prod.fst))) = true then some (true, ()) else grd (okG (dgL (dgT2 dgStr (dgL dgInt))) x343 a2 = true) (some ((!decide (x343 = a2)), ())))).bind fun c392 => some (c392.1, ())))).bind fun c393 => if c393.1 = true then inB (some (Tm.rt false)) else some (Bo.nx ())) (fun r => Bo.tm (Tm.rt r))))) (fun r => Bo.tm (Tm.rt r))))) (s_letO (i := 7) (oMO (κ := Str) (oL pInt)) sc_l_formed.nd (o_kd (E := fun (b_ : ((Unit × (Unit × Unit)) × (List (Str × List Int)))) => (oMO (κ := Str) (oL pInt)) b_.2) (x_Zo (kk := 2) (xs := fun (b : (Unit × (Unit × Unit))) => (x339, x343)) k_filled (hr.mono (by decide)) g_filled F_filled.kp b_filled (a_cons (x_var (p := (pM (κ := Str) (pL pInt)) x339) 4) (fun _ => a_cons (x_var (p := (pL (pT2 pStr (pL pInt))) x343) 5) (fun _ => a_nil))))) fun (b353 : ((Unit × (Unit × Unit)) × (List (Str × List Int)))) x352 v355 => s_T (T := ((M_trimmed x339 x343).bind okx).bind fun r356 => (some (r356 : List (Str × List Int))).bind fun x357 => (M_l_same_sides x352 x333).bind fun r361 => ((if (!r361) = true then some (true, ()) else (M_l_same_sides x357 x336).bind fun r363 => some ((!r363), ()))).bind fun c364 => if c364.1 = true then inB (some (Tm.rt false)) else ((M_filled x357 x343).bind okx).bind fun r367 => ((M_filled x352 x343).bind okx).bind fun r369 => (some (((), r367, r369) : (Unit × List (Str × List Int) × List (Str × List Int)))).bind fun x371 => ((M_trimmed x352 x343).bind okx).bind fun r376 => ((M_trimmed x357 x343).bind okx).bind fun r378 => (some (((), r376, r378) : (Unit × List (Str × List Int) × List (Str × List Int)))).bind fun x380 => grd (rg (3 : Int) = true) ((forL (rngL 0 (3 : Int).toNat) (() : Unit) fun x386 s385 => (atI ([x352, x371.2.1, x371.2.2]) x386).bind fun x406 => (M_l_same_sides x406 x333).bind fun r407 => ((if (!r407) = true then some (true, ()) else (atI ([x357, x380.2.1, x380.2.2]) x386).bind fun x410 => (M_l_same_sides x410 x336).bind fun r411 => some ((!r411), ()))).bind fun c412 => if c412.1 = true then inB (some (Tm.rt false)) else some (Bo.nx ())).bind (boK (fun s387 => grd (rg (3 : Int) = true) ((forL (rngL 0 (3 : Int).toNat) (([x357, x380.2.1, x380.2.2], [x352, x371.2.1, x371.2.2]) : (List (List (Str × List Int))) × (List (List (Str × List Int)))) fun x390 s389 => (ixN (s389.2).length x390).bind fun m395 => ((s389.2)[m395]?).bind fun x396 => (M_l_new x396 x333).bind fun r397 => ((if (!(r397.1)) = true then some (true, s389.1) else (ixN (s389.1).length x390).bind fun m401 => ((s389.1)[m401]?).bind fun x402 => (M_l_new x402 x336).bind fun r403 => some ((!(r403.1)), ((s389.1).set m401 (r403.2))))).bind fun c404 => if c404.1 = true then inB (some (Tm.rt false)) else some (Bo.nx (c404.2, ((s389.2).set m395 (r397.2))))).bind (boK (fun s391 => ((if (!deq x339 a1) = true then some (true, ()) else grd (okG (dgL dgStr) (x339.map Prod.fst) (a1.map Prod.fst) = true) (((if (!decide ((x339.map Prod.fst) = (a1.map Prod.fst))) = true then some (true, ()) else grd (okG (dgL (dgT2 dgStr (dgL dgInt))) x343 a2 = true) (some ((!decide (x343 = a2)), ())))).bind fun c392 => some (c392.1, ())))).bind fun c393 => if c393.1 = true then inB (some (Tm.rt false)) else some (Bo.nx ())) (fun r => Bo.tm (Tm.rt r))))) (fun r => Bo.tm (Tm.rt r))))) (s_letO (i := 8) (oMO (κ := Str) (oL pInt)) sc_l_formed.nd (o_kd (E := fun (b_ : ((Unit × (Unit × Unit)) × (List (Str × List Int)))) => (oMO (κ := Str) (oL pInt)) b_.2) (x_Zo (kk := 3) (xs := fun (b : (Unit × (Unit × Unit))) => (x339, x343)) k_trimmed (hr.mono (by decide)) g_trimmed F_trimmed.kp b_trimmed (a_cons (x_var (p := (pM (κ := Str) (pL pInt)) x339) 4) (fun _ => a_cons (x_var (p := (pL (pT2 pStr (pL pInt))) x343) 5) (fun _ => a_nil))))) fun (b358 : ((Unit × (Unit × Unit)) × (List (Str × List Int)))) x357 v360 => s_T (T := (M_l_same_sides x352 x333).bind fun r361 => ((if (!r361) = true then some (true, ()) else (M_l_same_sides x357 x336).bind fun r363 => some ((!r363), ()))).bind fun c364 => if c364.1 = true then inB (some (Tm.rt false)) else ((M_filled x357 x343).bind okx).bind fun r367 => ((M_filled x352 x343).bind okx).bind fun r369 => (some (((), r367, r369) : (Unit × List (Str × List Int) × List (Str × List Int)))).bind fun x371 => ((M_trimmed x352 x343).bind okx).bind fun r376 => ((M_trimmed x357 x343).bind okx).bind fun r378 => (some (((), r376, r378) : (Unit × List (Str × List Int) × List (Str × List Int)))).bind fun x380 => grd (rg (3 : Int) = true) ((forL (rngL 0 (3 : Int).toNat) (() : Unit) fun x386 s385 => (atI ([x352, x371.2.1, x371.2.2]) x386).bind fun x406 => (M_l_same_sides x406 x333).bind fun r407 => ((if (!r407) = true then some (true, ()) else (atI ([x357, x380.2.1, x380.2.2]) x386).bind fun x410 => (M_l_same_sides x410 x336).bind fun r411 => some ((!r411), ()))).bind fun c412 => if c412.1 = true then inB (some (Tm.rt false)) else some (Bo.nx ())).bind (boK (fun s387 => grd (rg (3 : Int) = true) ((forL (rngL 0 (3 : Int).toNat) (([x357, x380.2.1, x380.2.2], [x352, x371.2.1, x371.2.2]) : (List (List (Str × List Int))) × (List (List (Str × List Int)))) fun x390 s389 => (ixN (s389.2).length x390).bind fun m395 => ((s389.2)[m395]?).bind fun x396 => (M_l_new x396 x333).bind fun r397 => ((if (!(r397.1)) = true then some (true, s389.1) else (ixN (s389.1).length x390).bind fun m401 => ((s389.1)[m401]?).bind fun x402 => (M_l_new x402 x336).bind fun r403 => some ((!(r403.1)), ((s389.1).set m401 (r403.2))))).bind fun c404 => if c404.1 = true then inB (some (Tm.rt false)) else some (Bo.nx (c404.2, ((s389.2).set m395 (r397.2))))).bind (boK (fun s391 => ((if (!deq x339 a1) = true then some (true, ()) else grd (okG (dgL dgStr) (x339.map Prod.fst) (a1.map Prod.fst) = true) (((if (!decide ((x339.map Prod.fst) = (a1.map Prod.fst))) = true then some (true, ()) else grd (okG (dgL (dgT2 dgStr (dgL dgInt))) x343 a2 = true) (some ((!decide (x343 = a2)), ())))).bind fun c392 => some (c392.1, ())))).bind fun c393 => if c393.1 = true then inB (some (Tm.rt false)) else some (Bo.nx ())) (fun r => Bo.tm (Tm.rt r))))) (fun r => Bo.tm (Tm.rt r))))) (s_ifB ins_T (t_kd (c := fun (b_ : (((Unit × Unit) × Bool) × (Bool × Unit))) => b_.2.1) (t_lockG (d := (oMO (κ := Str) (oL pInt)) x357) 0 8 (by exact t_dl (PW.pt (w_orM (ΔS := fun (b_ : ((Unit × Unit) × Bool)) (s_ : Unit) => [⟨v355, (oMO (κ := Str) (oL pInt)) x352, none⟩]) (s1 := fun (b_ : ((Unit × Unit) × Bool)) => ()) (s2 := fun (b_ : ((Unit × Unit) × Bool)) (c_ : ((Unit × Unit) × Bool)) => ()) (t_kd (c := fun (b_ : ((Unit × Unit) × Bool)) => (!b_.2)) (t_not (t_kd (c := fun (b_ : ((Unit × Unit) × Bool)) => b_.2) (t_lockG (d := (oMO (κ := Str) (oL pInt)) x352) 0 7 (by exact t_dl (t_val (x_kd (E := fun (b_ : ((Unit × Unit) × Bool)) => pBl b_.2) (x_FF_f (kk := 3) (E1 := (pM (κ := Str) (pL pInt))) (E2 := (pM (κ := Str) (pL pInt))) k_l_same_sides (hr.mono (by decide)) g_l_same_sides F_l_same_sides.kp b_l_same_sides (x_var (p := (pM (κ := Str) (pL pInt)) x352) 7) (fun _ => x_var (p := (pM (κ := Str) (pL pInt)) x333) 2))))))))) (fun _ => w_or1 (t_kd (c := fun (b_ : ((Unit × Unit) × Bool)) => (!b_.2)) (t_not (t_kd (c := fun (b_ : ((Unit × Unit) × Bool)) => b_.2) (t_val (x_kd (E := fun (b_ : ((Unit × Unit) × Bool)) => pBl b_.2) (x_FF_f (kk := 3) (E1 := (pM (κ := Str) (pL pInt))) (E2 := (pM (κ := Str) (pL pInt))) k_l_same_sides (hr.mono (by decide)) g_l_same_sides F_l_same_sides.kp b_l_same_sides (x_var (p := (pM (κ := Str) (pL pInt)) x357) 8) (fun _ => x_var (p := (pM (κ := Str) (pL pInt)) x336) 3)))))))) (fun _ => rfl) (fun _ _ => rfl)))))) (fun (b365 : (((Unit × Unit) × Bool) × (Bool × Unit))) => s_T (T := some (Tm.rt false)) (s_ret (P := (fun _ => [])) (Rp := pBl) (ι := Tm.rt) (rv := fun (b : Unit) => false) (fun _ _ _ h => h) x_bl (fun _ => .cons _ (.cons _ (.slnil))))) fun (b365 : (((Unit × Unit) × Bool) × (Bool × Unit))) => s_T (T := ((M_filled x357 x343).bind okx).bind fun r367 => ((M_filled x352 x343).bind okx).bind fun r369 => (some (((), r367, r369) : (Unit × List (Str × List Int) × List (Str × List Int)))).bind fun x371 => ((M_trimmed x352 x343).bind okx).bind fun r376 => ((M_trimmed x357 x343).bind okx).bind fun r378 => (some (((), r376, r378) : (Unit × List (Str × List Int) × List (Str × List Int)))).bind fun x380 => grd (rg (3 : Int) = true) ((forL (rngL 0 (3 : Int).toNat) (() : Unit) fun x386 s385 => (atI ([x352, x371.2.1, x371.2.2]) x386).bind fun x406 => (M_l_same_sides x406 x333).bind fun r407 => ((if (!r407) = true then some (true, ()) else (atI ([x357, x380.2.1, x380.2.2]) x386).bind fun x410 => (M_l_same_sides x410 x336).bind fun r411 => some ((!r411), ()))).bind fun c412 => if c412.1 = true then inB (some (Tm.rt false)) else some (Bo.nx ())).bind (boK (fun s387 => grd (rg (3 : Int) = true) ((forL (rngL 0 (3 : Int).toNat) (([x357, x380.2.1, x380.2.2], [x352, x371.2.1, x371.2.2]) : (List (List (Str × List Int))) × (List (List (Str × List Int)))) fun x390 s389 => (ixN (s389.2).length x390).bind fun m395 => ((s389.2)[m395]?).bind fun x396 => (M_l_new x396 x333).bind fun r397 => ((if (!(r397.1)) = true then some (true, s389.1) else (ixN (s389.1).length x390).bind fun m401 => ((s389.1)[m401]?).bind fun x402 => (M_l_new x402 x336).bind fun r403 => some ((!(r403.1)), ((s389.1).set m401 (r403.2))))).bind fun c404 => if c404.1 = true then inB (some (Tm.rt false)) else some (Bo.nx (c404.2, ((s389.2).set m395 (r397.2))))).bind (boK (fun s391 => ((if (!deq x339 a1) = true then some (true, ()) else grd (okG (dgL dgStr) (x339.map Prod.fst) (a1.map Prod.fst) = true) (((if (!decide ((x339.map Prod.fst) = (a1.map Prod.fst))) = true then some (true, ()) else grd (okG (dgL (dgT2 dgStr (dgL dgInt))) x343 a2 = true) (some ((!decide (x343 = a2)), ())))).bind fun c392 => some (c392.1, ())))).bind fun c393 => if c393.1 = true then inB (some (Tm.rt false)) else some (Bo.nx ())) (fun r => Bo.tm (Tm.rt r))))) (fun r => Bo.tm (Tm.rt r))))) (s_letO (i := 9) (fun (z_ : (Unit × List (Str × List Int) × List (Str × List Int))) => oLH [oF (fun _ : Unit => pV v355) z_.1, (oMO (κ := Str) (oL pInt)) z_.2.1, (oMO (κ := Str) (oL pInt)) z_.2.2]) sc_l_formed.nd (o_kd (E := fun (b_ : (Unit × (((Unit × (Unit × Unit)) × (List (Str × List Int))) × (((Unit × (Unit × Unit)) × (List (Str × List Int))) × Unit)))) => (fun (z_ : (Unit × List (Str × List Int) × List (Str × List Int))) => oLH [oF (fun _ : Unit => pV v355) z_.1, (oMO (κ := Str) (oL pInt)) z_.2.1, (oMO (κ := Str) (oL pInt)) z_.2.2]) ((), b_.2.1.2, b_.2.2.1.2)) (x_dispLH (ao_cons (D := fun d_ : Od => d_) (x := fun (b_ : Unit) => oF (fun _ : Unit => pV v355) ()) (o_ofE (E := fun _ : Unit => pV v355) (x := fun _ => ()) (x_var (p := pV v355) 7)) (fun bh0_ vt0_ => ao_cons (D := fun d_ : Od => d_) (x := fun (b_ : ((Unit × (Unit × Unit)) × (List (Str × List Int)))) => (oMO (κ := Str) (oL pInt)) b_.2) (o_kd (E := fun (b_ : ((Unit × (Unit × Unit)) × (List (Str × List Int)))) => (oMO (κ := Str) (oL pInt)) b_.2) (o_lockG (d := (oMO (κ := Str) (oL pInt)) x357) 1 8 foMOL (x_Zo (Δ1 := fun _ => [⟨vt0_, (oF (fun _ : Unit => pV v355)) (), none⟩, ⟨v355, (oMO (κ := Str) (oL pInt)) x352, none⟩]) (kk := 2) (xs := fun (b : (Unit × (Unit × Unit))) => (x357, x343)) k_filled (hr.mono (by decide)) g_filled F_filled.kp b_filled (a_cons (x_var (p := (pM (κ := Str) (pL pInt)) x357) 8) (fun _ => a_cons (x_var (p := (pL (pT2 pStr (pL pInt))) x343) 5) (fun _ => a_nil)))))) (fun bh1_ vt1_ => ao_cons (D := fun d_ : Od => d_) (x := fun (b_ : ((Unit × (Unit × Unit)) × (List (Str × List Int)))) => (oMO (κ := Str) (oL pInt)) b_.2) (o_kd (E := fun (b_ : ((Unit × (Unit × Unit)) × (List (Str × List Int)))) => (oMO (κ := Str) (oL pInt)) b_.2) (o_lockG (d := (oMO (κ := Str) (oL pInt)) x352) 3 7 foMOL (x_Zo (Δ1 := fun _ => [⟨vt1_, (oMO (κ := Str) (oL pInt)) bh1_.2, none⟩, ⟨vt0_, (oF (fun _ : Unit => pV v355)) (), none⟩, ⟨v360, (oMO (κ := Str) (oL pInt)) x357, none⟩]) (kk := 2) (xs := fun (b : (Unit × (Unit × Unit))) => (x352, x343)) k_filled (hr.mono (by decide)) g_filled F_filled.kp b_filled (a_cons (x_var (p := (pM (κ := Str) (pL pInt)) x352) 7) (fun _ => a_cons (x_var (p := (pL (pT2 pStr (pL pInt))) x343) 5) (fun _ => a_nil)))))) (fun bh2_ vt2_ => ao_nil)))) (fun _ => by simp))) fun (b372 : (Unit × (((Unit × (Unit × Unit)) × (List (Str × List Int))) × (((Unit × (Unit × Unit)) × (List (Str × List Int))) × Unit)))) x371 v374 => s_T (T := ((M_trimmed x352 x343).bind okx).bind fun r376 => ((M_trimmed x357 x343).bind okx).bind fun r378 => (some (((), r376, r378) : (Unit × List (Str × List Int) × List (Str × List Int)))).bind fun x380 => grd (rg (3 : Int) = true) ((forL (rngL 0 (3 : Int).toNat) (() : Unit) fun x386 s385 => (atI ([x352, x371.2.1, x371.2.2]) x386).bind fun x406 => (M_l_same_sides x406 x333).bind fun r407 => ((if (!r407) = true then some (true, ()) else (atI ([x357, x380.2.1, x380.2.2]) x386).bind fun x410 => (M_l_same_sides x410 x336).bind fun r411 => some ((!r411), ()))).bind fun c412 => if c412.1 = true then inB (some (Tm.rt false)) else some (Bo.nx ())).bind (boK (fun s387 => grd (rg (3 : Int) = true) ((forL (rngL 0 (3 : Int).toNat) (([x357, x380.2.1, x380.2.2], [x352, x371.2.1, x371.2.2]) : (List (List (Str × List Int))) × (List (List (Str × List Int)))) fun x390 s389 => (ixN (s389.2).length x390).bind fun m395 => ((s389.2)[m395]?).bind fun x396 => (M_l_new x396 x333).bind fun r397 => ((if (!(r397.1)) = true then some (true, s389.1) else (ixN (s389.1).length x390).bind fun m401 => ((s389.1)[m401]?).bind fun x402 => (M_l_new x402 x336).bind fun r403 => some ((!(r403.1)), ((s389.1).set m401 (r403.2))))).bind fun c404 => if c404.1 = true then inB (some (Tm.rt false)) else some (Bo.nx (c404.2, ((s389.2).set m395 (r397.2))))).bind (boK (fun s391 => ((if (!deq x339 a1) = true then some (true, ()) else grd (okG (dgL dgStr) (x339.map Prod.fst) (a1.map Prod.fst) = true) (((if (!decide ((x339.map Prod.fst) = (a1.map Prod.fst))) = true then some (true, ()) else grd (okG (dgL (dgT2 dgStr (dgL dgInt))) x343 a2 = true) (some ((!decide (x343 = a2)), ())))).bind fun c392 => some (c392.1, ())))).bind fun c393 => if c393.1 = true then inB (some (Tm.rt false)) else some (Bo.nx ())) (fun r => Bo.tm (Tm.rt r))))) (fun r => Bo.tm (Tm.rt r))))) (s_letO (i := 10) (fun (z_ : (Unit × List (Str × List Int) × List (Str × List Int))) => oLH [oF (fun _ : Unit => pV v360) z_.1, (oMO (κ := Str) (oL pInt)) z_.2.1, (oMO (κ := Str) (oL pInt)) z_.2.2]) sc_l_formed.nd (o_kd (E := fun (b_ : (Unit × (((Unit × (Unit × Unit)) × (List (Str × List Int))) × (((Unit × (Unit × Unit)) × (List (Str × List Int))) × Unit)))) => (fun (z_ : (Unit × List (Str × List Int) × List (Str × List Int))) => oLH [oF (fun _ : Unit => pV v360) z_.1, (oMO (κ := Str) (oL pInt)) z_.2.1, (oMO (κ := Str) (oL pInt)) z_.2.2]) ((), b_.2.1.2, b_.2.2.1.2)) (x_dispLH (ao_cons (D := fun d_ : Od => d_) (x := fun (b_ : Unit) => oF (fun _ : Unit => pV v360) ()) (o_ofE (E := fun _ : Unit => pV v360) (x := fun _ => ()) (x_var (p := pV v360) 8)) (fun bh0_ vt0_ => ao_cons (D := fun d_ : Od => d_) (x := fun (b_ : ((Unit × (Unit × Unit)) × (List (Str × List Int)))) => (oMO (κ := Str) (oL pInt)) b_.2) (o_kd (E := fun (b_ : ((Unit × (Unit × Unit)) × (List (Str × List Int)))) => (oMO (κ := Str) (oL pInt)) b_.2) (o_lockG (d := (oMO (κ := Str) (oL pInt)) x352) 3 7 foMOL (x_Zo (Δ1 := fun _ => [⟨vt0_, (oF (fun _ : Unit => pV v360)) (), none⟩, ⟨v374, (fun (z_ : (Unit × List (Str × List Int) × List (Str × List Int))) => oLH [oF (fun _ : Unit => pV v355) z_.1, (oMO (κ := Str) (oL pInt)) z_.2.1, (oMO (κ := Str) (oL pInt)) z_.2.2]) x371, none⟩, ⟨v360, (oMO (κ := Str) (oL pInt)) x357, none⟩]) (kk := 3) (xs := fun (b : (Unit × (Unit × Unit))) => (x352, x343)) k_trimmed (hr.mono (by decide)) g_trimmed F_trimmed.kp b_trimmed (a_cons (x_var (p := (pM (κ := Str) (pL pInt)) x352) 7) (fun _ => a_cons (x_var (p := (pL (pT2 pStr (pL pInt))) x343) 5) (fun _ => a_nil)))))) (fun bh1_ vt1_ => ao_cons (D := fun d_ : Od => d_) (x := fun (b_ : ((Unit × (Unit × Unit)) × (List (Str × List Int)))) => (oMO (κ := Str) (oL pInt)) b_.2) (o_kd (E := fun (b_ : ((Unit × (Unit × Unit)) × (List (Str × List Int)))) => (oMO (κ := Str) (oL pInt)) b_.2) (o_lockG (d := (oMO (κ := Str) (oL pInt)) x357) 3 8 foMOL (x_Zo (Δ1 := fun _ => [⟨vt1_, (oMO (κ := Str) (oL pInt)) bh1_.2, none⟩, ⟨vt0_, (oF (fun _ : Unit => pV v360)) (), none⟩, ⟨v374, (fun (z_ : (Unit × List (Str × List Int) × List (Str × List Int))) => oLH [oF (fun _ : Unit => pV v355) z_.1, (oMO (κ := Str) (oL pInt)) z_.2.1, (oMO (κ := Str) (oL pInt)) z_.2.2]) x371, none⟩, ⟨v355, (oMO (κ := Str) (oL pInt)) x352, none⟩]) (kk := 3) (xs := fun (b : (Unit × (Unit × Unit))) => (x357, x343)) k_trimmed (hr.mono (by decide)) g_trimmed F_trimmed.kp b_trimmed (a_cons (x_var (p := (pM (κ := Str) (pL pInt)) x357) 8) (fun _ => a_cons (x_var (p := (pL (pT2 pStr (pL pInt))) x343) 5) (fun _ => a_nil)))))) (fun bh2_ vt2_ => ao_nil)))) (fun _ => by simp))) fun (b381 : (Unit × (((Unit × (Unit × Unit)) × (List (Str × List Int))) × (((Unit × (Unit × Unit)) × (List (Str × List Int))) × Unit)))) x380 v383 => s_front 3 (s_front 2 (s_joinL (D := (oMO (κ := Str) (oL pInt))) (x := x352) (xs := [x371.2.1, x371.2.2]) (s_front 2 (s_front 2 (s_joinL (D := (oMO (κ := Str) (oL pInt))) (x := x357) (xs := [x380.2.1, x380.2.2]) (s_T (T := grd (rg (3 : Int) = true) ((forL (rngL 0 (3 : Int).toNat) (() : Unit) fun x386 s385 => (atI ([x352, x371.2.1, x371.2.2]) x386).bind fun x406 => (M_l_same_sides x406 x333).bind fun r407 => ((if (!r407) = true then some (true, ()) else (atI ([x357, x380.2.1, x380.2.2]) x386).bind fun x410 => (M_l_same_sides x410 x336).bind fun r411 => some ((!r411), ()))).bind fun c412 => if c412.1 = true then inB (some (Tm.rt false)) else some (Bo.nx ())).bind (boK (fun s387 => grd (rg (3 : Int) = true) ((forL (rngL 0 (3 : Int).toNat) (([x357, x380.2.1, x380.2.2], [x352, x371.2.1, x371.2.2]) : (List (List (Str × List Int))) × (List (List (Str × List Int)))) fun x390 s389 => (ixN (s389.2).length x390).bind fun m395 => ((s389.2)[m395]?).bind fun x396 => (M_l_new x396 x333).bind fun r397 => ((if (!(r397.1)) = true then some (true, s389.1) else (ixN (s389.1).length x390).bind fun m401 => ((s389.1)[m401]?).bind fun x402 => (M_l_new x402 x336).bind fun r403 => some ((!(r403.1)), ((s389.1).set m401 (r403.2))))).bind fun c404 => if c404.1 = true then inB (some (Tm.rt false)) else some (Bo.nx (c404.2, ((s389.2).set m395 (r397.2))))).bind (boK (fun s391 => ((if (!deq x339 a1) = true then some (true, ()) else grd (okG (dgL dgStr) (x339.map Prod.fst) (a1.map Prod.fst) = true) (((if (!decide ((x339.map Prod.fst) = (a1.map Prod.fst))) = true then some (true, ()) else grd (okG (dgL (dgT2 dgStr (dgL dgInt))) x343 a2 = true) (some ((!decide (x343 = a2)), ())))).bind fun c392 => some (c392.1, ())))).bind fun c393 => if c393.1 = true then inB (some (Tm.rt false)) else some (Bo.nx ())) (fun r => Bo.tm (Tm.rt r))))) (fun r => Bo.tm (Tm.rt r))))) (s_for PassesOwn.never (fun (b_ : Unit) (s_ : Unit) => ([some ((pM (κ := Str) (pL pInt)) a1), some ((pL (pT2 pStr (pL pInt))) a2), some ((pM (κ := Str) (pL pInt)) x333), some ((pM (κ := Str) (pL pInt)) x336), some ((pM (κ := Str) (pL pInt)) x339), some ((pL (pT2 pStr (pL pInt))) x343), some (pInt x349), none, none, some (pV v374), some (pV v383), none, none], [⟨v383, (oLO (oMO (κ := Str) (oL pInt))) ([x357, x380.2.1, x380.2.2]), none⟩, ⟨v374, (oLO (oMO (κ := Str) (oL pInt))) ([x352, x371.2.1, x371.2.2]), none⟩])) (fun (b_ : Unit) => ()) (ι := (fun r => Bo.tm (Tm.rt r))) (R := (RF ⟨H, []⟩ (fun _ => []) pBl)) (i_rng1 m_range (x_int (i := 3))) (pg_name (i := 11) sc_l_formed.nd rfl (by first | exact .inl rfl | exact .inr rfl)) (tg_name 11) (fun _ => ⟨rfl, rfl, rfl, rfl, rfl, rfl, rfl, rfl, rfl, trivial⟩) (fun _ => List.Sublist.refl _) (fun b384 x386 s385 => s_T (T := (atI ([x352, x371.2.1, x371.2.2]) x386).bind fun x406 => (M_l_same_sides x406 x333).bind fun r407 => ((if (!r407) = true then some (true, ()) else (atI ([x357, x380.2.1, x380.2.2]) x386).bind fun x410 => (M_l_same_sides x410 x336).bind fun r411 => some ((!r411), ()))).bind fun c412 => if c412.1 = true then inB (some (Tm.rt false)) else some (Bo.nx ())) (s_ifB ins_T (t_kd (c := fun (b_ : (((((Unit × Unit) × (List (Str × List Int))) × Unit) × Bool) × (Bool × Unit))) => b_.2.1) (t_lockG (d := (oLO (oMO (κ := Str) (oL pInt))) ([x357, x380.2.1, x380.2.2])) 0 10 (by exact t_dl (PW.pt (w_orM (ΔS := fun (b_ : ((((Unit × Unit) × (List (Str × List Int))) × Unit) × Bool)) (s_ : Unit) => [⟨v374, (oLO (oMO (κ := Str) (oL pInt))) ([x352, x371.2.1, x371.2.2]), none⟩]) (s1 := fun (b_ : ((((Unit × Unit) × (List (Str × List Int))) × Unit) × Bool)) => ()) (s2 := fun (b_ : ((((Unit × Unit) × (List (Str × List Int))) × Unit) × Bool)) (c_ : ((((Unit × Unit) × (List (Str × List Int))) × Unit) × Bool)) => ()) (t_kd (c := fun (b_ : ((((Unit × Unit) × (List (Str × List Int))) × Unit) × Bool)) => (!b_.2)) (t_not (t_kd (c := fun (b_ : ((((Unit × Unit) × (List (Str × List Int))) × Unit) × Bool)) => b_.2) (t_lockG (d := (oLO (oMO (κ := Str) (oL pInt))) ([x352, x371.2.1, x371.2.2])) 0 9 (by exact t_dl (t_val (x_kd (E := fun (b_ : ((((Unit × Unit) × (List (Str × List Int))) × Unit) × Bool)) => pBl b_.2) (x_FF_f (kk := 3) (E1 := (pM (κ := Str) (pL pInt))) (E2 := (pM (κ := Str) (pL pInt))) k_l_same_sides (hr.mono (by decide)) g_l_same_sides F_l_same_sides.kp b_l_same_sides (x_kd (E := fun (b_ : ((Unit × Unit) × (List (Str × List Int)))) => (pM (κ := Str) (pL pInt)) b_.2) (x_ixL (Ee := (pM (κ := Str) (pL pInt))) (x_var (p := (pL (pM (κ := Str) (pL pInt))) ([x352, x371.2.1, x371.2.2])) 9) (fun _ => x_var (p := pInt x386) 11) (fun _ _ => rdF))) (fun _ => x_var (p := (pM (κ := Str) (pL pInt)) x333) 2))))))))) (fun _ => w_or1 (t_kd (c := fun (b_ : ((((Unit × Unit) × (List (Str × List Int))) × Unit) × Bool)) => (!b_.2)) (t_not (t_kd (c := fun (b_ : ((((Unit × Unit) × (List (Str × List Int))) × Unit) × Bool)) => b_.2) (t_val (x_kd (E := fun (b_ : ((((Unit × Unit) × (List (Str × List Int))) × Unit) × Bool)) => pBl b_.2) (x_FF_f (kk := 3) (E1 := (pM (κ := Str) (pL pInt))) (E2 := (pM (κ := Str) (pL pInt))) k_l_same_sides (hr.mono (by decide)) g_l_same_sides F_l_same_sides.kp b_l_same_sides (x_kd (E := fun (b_ : ((Unit × Unit) × (List (Str × List Int)))) => (pM (κ := Str) (pL pInt)) b_.2) (x_ixL (Ee := (pM (κ := Str) (pL pInt))) (x_var (p := (pL (pM (κ := Str) (pL pInt))) ([x357, x380.2.1, x380.2.2])) 10) (fun _ => x_var (p := pInt x386) 11) (fun _ _ => rdF))) (fun _ => x_var (p := (pM (κ := Str) (pL pInt)) x336) 3)))))))) (fun _ => rfl) (fun _ _ => rfl)))))) (fun (b413 : (((((Unit × Unit) × (List (Str × List Int))) × Unit) × Bool) × (Bool × Unit))) => s_T (T := some (Tm.rt false)) (s_ret (P := (fun _ => [])) (Rp := pBl) (ι := Tm.rt) (rv := fun (b : Unit) => false) (fun _ _ _ h => h) x_bl (fun _ => .cons _ (.cons _ (.slnil))))) fun (b413 : (((((Unit × Unit) × (List (Str × List Int))) × Unit) × Bool) × (Bool × Unit))) => s_endB () ⟨rfl, rfl, rfl, rfl, rfl, rfl, rfl, rfl, rfl, trivial⟩ (List.Sublist.refl _))) (fun b384 s387 => s_T (T := grd (rg (3 : Int) = true) ((forL (rngL 0 (3 : Int).toNat) (([x357, x380.2.1, x380.2.2], [x352, x371.2.1, x371.2.2]) : (List (List (Str × List Int))) × (List (List (Str × List Int)))) fun x390 s389 => (ixN (s389.2).length x390).bind fun m395 => ((s389.2)[m395]?).bind fun x396 => (M_l_new x396 x333).bind fun r397 => ((if (!(r397.1)) = true then some (true, s389.1) else (ixN (s389.1).length x390).bind fun m401 => ((s389.1)[m401]?).bind fun x402 => (M_l_new x402 x336).bind fun r403 => some ((!(r403.1)), ((s389.1).set m401 (r403.2))))).bind fun c404 => if c404.1 = true then inB (some (Tm.rt false)) else some (Bo.nx (c404.2, ((s389.2).set m395 (r397.2))))).bind (boK (fun s391 => ((if (!deq x339 a1) = true then some (true, ()) else grd (okG (dgL dgStr) (x339.map Prod.fst) (a1.map Prod.fst) = true) (((if (!decide ((x339.map Prod.fst) = (a1.map Prod.fst))) = true then some (true, ()) else grd (okG (dgL (dgT2 dgStr (dgL dgInt))) x343 a2 = true) (some ((!decide (x343 = a2)), ())))).bind fun c392 => some (c392.1, ())))).bind fun c393 => if c393.1 = true then inB (some (Tm.rt false)) else some (Bo.nx ())) (fun r => Bo.tm (Tm.rt r))))) (s_for PassesOwn.never (fun (b_ : Unit) (s_ : (List (List (Str × List Int))) × (List (List (Str × List Int)))) => ([some ((pM (κ := Str) (pL pInt)) a1), some ((pL (pT2 pStr (pL pInt))) a2), some ((pM (κ := Str) (pL pInt)) x333), some ((pM (κ := Str) (pL pInt)) x336), some ((pM (κ := Str) (pL pInt)) x339), some ((pL (pT2 pStr (pL pInt))) x343), some (pInt x349), none, none, some (pV v374), some (pV v383), none, none], [⟨v383, (oLO (oMO (κ := Str) (oL pInt))) s_.1, none⟩, ⟨v374, (oLO (oMO (κ := Str) (oL pInt))) s_.2, none⟩])) (fun (b_ : Unit) => ([x357, x380.2.1, x380.2.2], [x352, x371.2.1, x371.2.2])) (ι := (fun r => Bo.tm (Tm.rt r))) (R := (RF ⟨H, []⟩ (fun _ => []) pBl)) (i_rng1 m_range (x_int (i := 3))) (pg_name (i := 11) sc_l_formed.nd rfl (by first | exact .inl rfl | exact .inr rfl)) (tg_name 11) (fun _ => ⟨rfl, rfl, rfl, rfl, rfl, rfl, rfl, rfl, rfl, trivial⟩) (fun _ => List.Sublist.refl _) (fun b388 x390 s389 => s_T (T := (ixN (s389.2).length x390).bind fun m395 => ((s389.2)[m395]?).bind fun x396 => (M_l_new x396 x333).bind fun r397 => ((if (!(r397.1)) = true then some (true, s389.1) else (ixN (s389.1).length x390).bind fun m401 => ((s389.1)[m401]?).bind fun x402 => (M_l_new x402 x336).bind fun r403 => some ((!(r403.1)), ((s389.1).set m401 (r403.2))))).bind fun c404 => if c404.1 = true then inB (some (Tm.rt false)) else some (Bo.nx (c404.2, ((s389.2).set m395 (r397.2))))) (s_ifB ins_T (t_kd (c := fun (b_ : (((((Unit × Unit) × (Nat × (List (Str × List Int)))) × Unit) × (Bool × (List (Str × List Int)))) × (Bool × (List (List (Str × List Int)))))) => b_.2.1) (PW.pt (w_orM (ΔS := fun (b_ : ((((Unit × Unit) × (Nat × (List (Str × List Int)))) × Unit) × (Bool × (List (Str × List Int))))) (s_ : (List (List (Str × List Int)))) => [⟨v383, (oLO (oMO (κ := Str) (oL pInt))) s_, none⟩, ⟨v374, (oLO (oMO (κ := Str) (oL pInt))) ((s389.2).set b_.1.1.2.1 (b_.2.2)), none⟩]) (s1 := fun (b_ : ((((Unit × Unit) × (Nat × (List (Str × List Int)))) × Unit) × (Bool × (List (Str × List Int))))) => s389.1) (s2 := fun (b_ : ((((Unit × Unit) × (Nat × (List (Str × List Int)))) × Unit) × (Bool × (List (Str × List Int))))) (c_ : ((((Unit × Unit) × (Nat × (List (Str × List Int)))) × Unit) × (Bool × (List (Str × List Int))))) => ((s389.1).set c_.1.1.2.1 (c_.2.2))) (t_kd (c := fun (b_ : ((((Unit × Unit) × (Nat × (List (Str × List Int)))) × Unit) × (Bool × (List (Str × List Int))))) => (!(b_.2.1))) (t_not (t_kd (c := fun (b_ : ((((Unit × Unit) × (Nat × (List (Str × List Int)))) × Unit) × (Bool × (List (Str × List Int))))) => b_.2.1) (t_val (x_kd (E := fun (b_ : ((((Unit × Unit) × (Nat × (List (Str × List Int)))) × Unit) × (Bool × (List (Str × List Int))))) => pBl b_.2.1) (x_PF_f (kk := 1) (E1 := (oMO (κ := Str) (oL pInt))) (E2 := (pM (κ := Str) (pL pInt))) k_l_new (hr.mono (by decide)) g_l_new F_l_new.kp b_l_new 1 (f_ix (D := (oMO (κ := Str) (oL pInt))) 1 (f_var (D := (oLO (oMO (κ := Str) (oL pInt)))) (x_var (p := pV v374) 9)) (fun _ => x_var (p := pInt x390) 11)) (fun _ => x_var (p := (pM (κ := Str) (pL pInt)) x333) 2))))))) (fun _ => w_or1 (t_kd (c := fun (b_ : ((((Unit × Unit) × (Nat × (List (Str × List Int)))) × Unit) × (Bool × (List (Str × List Int))))) => (!(b_.2.1))) (t_not (t_kd (c := fun (b_ : ((((Unit × Unit) × (Nat × (List (Str × List Int)))) × Unit) × (Bool × (List (Str × List Int))))) => b_.2.1) (t_val (x_kd (E := fun (b_ : ((((Unit × Unit) × (Nat × (List (Str × List Int)))) × Unit) × (Bool × (List (Str × List Int))))) => pBl b_.2.1) (x_PF_f (kk := 1) (E1 := (oMO (κ := Str) (oL pInt))) (E2 := (pM (κ := Str) (pL pInt))) k_l_new (hr.mono (by decide)) g_l_new F_l_new.kp b_l_new 0 (f_ix (D := (oMO (κ := Str) (oL pInt))) 0 (f_var (D := (oLO (oMO (κ := Str) (oL pInt)))) (x_var (p := pV v383) 10)) (fun _ => x_var (p := pInt x390) 11)) (fun _ => x_var (p := (pM (κ := Str) (pL pInt)) x336) 3)))))))) (fun _ => rfl) (fun _ _ => rfl)))) (fun (b405 : (((((Unit × Unit) × (Nat × (List (Str × List Int)))) × Unit) × (Bool × (List (Str × List Int)))) × (Bool × (List (List (Str × List Int)))))) => s_T (T := some (Tm.rt false)) (s_ret (P := (fun _ => [])) (Rp := pBl) (ι := Tm.rt) (rv := fun (b : Unit) => false) (fun _ _ _ h => h) x_bl (fun _ => .cons _ (.cons _ (.slnil))))) fun (b405 : (((((Unit × Unit) × (Nat × (List (Str × List Int)))) × Unit) × (Bool × (List (Str × List Int)))) × (Bool × (List (List (Str × List Int)))))) => s_endB (b405.2.2, ((s389.2).set b405.1.1.1.2.1 (b405.1.2.2))) ⟨rfl, rfl, rfl, rfl, rfl, rfl, rfl, rfl, rfl, trivial⟩ (List.Sublist.refl _))) (fun b388 s391 => s_T (T := ((if (!deq x339 a1) = true then some (true, ()) else grd (okG (dgL dgStr) (x339.map Prod.fst) (a1.map Prod.fst) = true) (((if (!decide ((x339.map Prod.fst) = (a1.map Prod.fst))) = true then some (true, ()) else grd (okG (dgL (dgT2 dgStr (dgL dgInt))) x343 a2 = true) (some ((!decide (x343 = a2)), ())))).bind fun c392 => some (c392.1, ())))).bind fun c393 => if c393.1 = true then inB (some (Tm.rt false)) else some (Bo.nx ())) (s_ifB ins_T (t_kd (c := fun (b_ : ((Unit × Unit) × (Bool × Unit))) => b_.2.1) (PW.pt (w_orM (ΔS := fun (b_ : (Unit × Unit)) (s_ : Unit) => [⟨v383, (oLO (oMO (κ := Str) (oL pInt))) s391.1, none⟩, ⟨v374, (oLO (oMO (κ := Str) (oL pInt))) s391.2, none⟩]) (s1 := fun (b_ : (Unit × Unit)) => ()) (s2 := fun (b_ : (Unit × Unit)) (c_ : ((Unit × Unit) × (Bool × Unit))) => ()) (t_kd (c := fun (b_ : (Unit × Unit)) => (!deq x339 a1)) (t_neM (κ := Str) (room66 hr) (dtL dtInt) (x_var (p := (pM (κ := Str) (pL pInt)) x339) 4) (fun _ => x_var (p := (pM (κ := Str) (pL pInt)) a1) 0) (fun _ _ => rdMF) (fun _ _ => rdMF))) (fun _ => w_orM (ΔS := fun (b_ : (Unit × Unit)) (s_ : Unit) => [⟨v383, (oLO (oMO (κ := Str) (oL pInt))) s391.1, none⟩, ⟨v374, (oLO (oMO (κ := Str) (oL pInt))) s391.2, none⟩]) (s1 := fun (b_ : (Unit × Unit)) => ()) (s2 := fun (b_ : (Unit × Unit)) (c_ : (Unit × Unit)) => ()) (t_kd (c := fun (b_ : (Unit × Unit)) => (!decide ((x339.map Prod.fst) = (a1.map Prod.fst)))) (t_neG (dgL dgStr) hr.units (x_kd (E := fun (b_ : Unit) => (pL pStr) (x339.map Prod.fst)) (x_frz (o_kd (E := fun (b_ : Unit) => (oL pStr) (x339.map Prod.fst)) (x_listD (κ := Str) (Ee := (pL pInt)) m_list (x_var (p := (pM (κ := Str) (pL pInt)) x339) 4) (fun _ => rdMF))))) (fun _ => x_kd (E := fun (b_ : Unit) => (pL pStr) (a1.map Prod.fst)) (x_frz (o_kd (E := fun (b_ : Unit) => (oL pStr) (a1.map Prod.fst)) (x_listD (κ := Str) (Ee := (pL pInt)) m_list (x_var (p := (pM (κ := Str) (pL pInt)) a1) 0) (fun _ => rdMF))))))) (fun _ => w_or1 (t_kd (c := fun (b_ : (Unit × Unit)) => (!decide (x343 = a2))) (t_neG (dgL (dgT2 dgStr (dgL dgInt))) hr.units (x_var (p := (pL (pT2 pStr (pL pInt))) x343) 5) (fun _ => x_var (p := (pL (pT2 pStr (pL pInt))) a2) 1)))) (fun _ => rfl) (fun _ _ => rfl)) (fun _ => rfl) (fun _ _ => rfl)))) (fun (b394 : ((Unit × Unit) × (Bool × Unit))) => s_T (T := some (Tm.rt false)) (s_ret (P := (fun _ => [])) (Rp := pBl) (ι := Tm.rt) (rv := fun (b : Unit) => false) (fun _ _ _ h => h) x_bl (fun _ => .cons _ (.cons _ (.slnil))))) fun (b394 : ((Unit × Unit) × (Bool × Unit))) => s_endB () ⟨rfl, rfl, rfl, rfl, rfl, rfl, trivial⟩ (.cons _ (.cons _ (.slnil))))) (fun _ _ _ h => h))) (fun _ _ _ h => h)))))))))))))) (fun b347 s350 => s_T (T := some true) (s_ret (P := (fun _ => [])) (Rp := pBl) (ι := id) (rv := fun (b : Unit) => true) (fun _ _ _ h => h) x_bl (fun _ => List.Sublist.refl _))) (fun _ _ _ h => h)))))))) (by unfold M_l_formed; rfl)
end
end My
end
section
set_option maxHeartbeats 4000000
set_option synthInstance.maxSize 2000
namespace My
open PySem PySem.Spec PyProof.Rows L2 L3
section
variable {P : Program} {w : World} {K : PySem.W.Frag} {mg : Str → Option Value} {base : Heap}
theorem sc_l_told_name : FnScope ["_law_short", "_law_sides", "_law_domains_here", "_law_other", "e"] ["_law_short", "_law_sides", "_law_domains_here"] (defScope (top 48)) := ⟨rfl, rfl, rfl, by decide +kernel, rfl, by decide +kernel, by decide +kernel⟩
theorem ok_l_told_name {f : Addr} {fd : FuncData} (C : Ev P K mg) (FD : FnP K "_law_told_name" (top 48) f fd)   : FnOk P w K mg base CX0 4 f fd ["_law_short", "_law_sides", "_law_domains_here"] (Sp_FFF_f pBl (pM (κ := Str) (pL pInt)) (pL (pT2 pStr (pL pInt))) M_l_told_name (pOp pStr)) := by
  have m_isinstance := C.m_isinstance
  obtain ⟨f_trimmed, fd_trimmed, F_trimmed, g_trimmed⟩ := C.f_trimmed
  have k_trimmed := ok_trimmed (P := P) (w := w) (base := base) C F_trimmed
  have b_trimmed : Binds K fd_trimmed ["box", "domains"] [] := F_trimmed.bindsN fun _ _ _ _ _ _ us hl => match us, hl with | [_, _], _ => rfl
  obtain ⟨f_filled, fd_filled, F_filled, g_filled⟩ := C.f_filled
  have k_filled := ok_filled (P := P) (w := w) (base := base) C F_filled
  have b_filled : Binds K fd_filled ["box", "domains"] [] := F_filled.bindsN fun _ _ _ _ _ _ us hl => match us, hl with | [_, _], _ => rfl
  refine fn_FFF_f FD sc_l_told_name rfl fun cdv A outer s H E hr  a1 a2 a3 => ?_
  exact s_is (s_T (T := ((if a1 = true then (M_trimmed a2 a3).bind (xK (fun e => Bo.tm ((Except.error) e)) fun r417 => some (Bo.nx ())) else (M_filled a2 a3).bind (xK (fun e => Bo.tm ((Except.error) e)) fun r419 => some (Bo.nx ()))).bind (boK (fun s416 => some (Bo.nx ())) Bo.tm)).bind (tryK (fun s414 => some (none : Option Str)) id (fun e => subC e.cn "UnknownName") (fun e421 => (some (((["RepeatedName", "UnknownValue", "RepeatedValue", "UnknownKey", "RepeatedKey", "EmptyRule", "BadRow", "BadBounds", "BadNumber", "BadStep", "NoMark", "NotStruck", "BadOrder", "NotBare", "NoClash", "HoldsAnswer", "BadLine", "UnknownLine", "BadText", "NothingToUndo", "NothingToRedo", "UnknownStep", "BadDeed"] : List Str).any (subC e421.cn)) : Bool)).bind fun x422 => if (x422 || ((!(subC e421.cn "DeskError")) || (!(subC e421.cn "ValueError")))) = true then inB (some (none : Option Str)) else inB ((erF e421 "name").bind fun y425 => (FV.str? y425).bind fun z426 => some (some z426))) (fun _ => none))) (s_try_as (Tf := (fF (RF ⟨H, []⟩ (fun _ => []) (pOp pStr)))) (Ke := fun _ => none) (ι := id) (i := 4) (m := fun e => subC e.cn "UnknownName") (Kx := erX mg rsL) (fun s_ : Unit => ([some (pBl a1), some ((pM (κ := Str) (pL pInt)) a2), some ((pL (pT2 pStr (pL pInt))) a3), none, none], [])) ([some (pBl a1), some ((pM (κ := Str) (pL pInt)) a2), some ((pL (pT2 pStr (pL pInt))) a3), none, none]) ([]) sc_l_told_name.nd (C.xs.names (by decide +kernel)) takes_no (C.xs.exms (by decide +kernel)) (by rfl) (fun W pn xe tkW po => s_T (T := (if a1 = true then (M_trimmed a2 a3).bind (xK (fun e => Bo.tm ((Except.error) e)) fun r417 => some (Bo.nx ())) else (M_filled a2 a3).bind (xK (fun e => Bo.tm ((Except.error) e)) fun r419 => some (Bo.nx ()))).bind (boK (fun s416 => some (Bo.nx ())) Bo.tm)) (s_ifM (C := fun s_ : Unit => ([some (pBl a1), some ((pM (κ := Str) (pL pInt)) a2), some ((pL (pT2 pStr (pL pInt))) a3), none, none], [])) (ι := Bo.tm) (ins_X (ins_F _)) (fun _ _ _ h => h) (t_kd (c := fun (b_ : Unit) => a1) (t_val (x_var (p := pBl a1) 0))) (fun (b415 : Unit) => s_T (T := (M_trimmed a2 a3).bind (xK (fun e => Bo.tm ((Except.error) e)) fun r417 => some (Bo.nx ()))) (s_exprOX (x_Xo (kk := 3) (xs := fun (b : (Unit × (Unit × Unit))) => (a2, a3)) k_trimmed tkW (hr.mono (by decide)) g_trimmed F_trimmed.kp b_trimmed (a_cons (x_var (p := (pM (κ := Str) (pL pInt)) a2) 1) (fun _ => a_cons (x_var (p := (pL (pT2 pStr (pL pInt))) a3) 2) (fun _ => a_nil)))) (ex_B ex_X) (List.Sublist.refl _) (fun _ _ h => nm_wk h ⟨rfl, rfl, rfl, trivial⟩) fun (b418 : ((Unit × (Unit × Unit)) × (List (Str × List Int)))) => s_endB () ⟨rfl, rfl, rfl, trivial⟩ (List.Sublist.refl _))) (fun (b415 : Unit) => s_T (T := (M_filled a2 a3).bind (xK (fun e => Bo.tm ((Except.error) e)) fun r419 => some (Bo.nx ()))) (s_exprOX (x_Xo (kk := 2) (xs := fun (b : (Unit × (Unit × Unit))) => (a2, a3)) k_filled tkW (hr.mono (by decide)) g_filled F_filled.kp b_filled (a_cons (x_var (p := (pM (κ := Str) (pL pInt)) a2) 1) (fun _ => a_cons (x_var (p := (pL (pT2 pStr (pL pInt))) a3) 2) (fun _ => a_nil)))) (ex_B ex_X) (List.Sublist.refl _) (fun _ _ h => nm_wk h ⟨rfl, rfl, rfl, trivial⟩) fun (b420 : ((Unit × (Unit × Unit)) × (List (Str × List Int)))) => s_endB () ⟨rfl, rfl, rfl, trivial⟩ (List.Sublist.refl _))) fun (b415 : Unit) s416 => s_endB () ⟨rfl, rfl, rfl, trivial⟩ (List.Sublist.refl _))) (fun a oe cls d pn hz hf e421 => s_T (T := (some (((["RepeatedName", "UnknownValue", "RepeatedValue", "UnknownKey", "RepeatedKey", "EmptyRule", "BadRow", "BadBounds", "BadNumber", "BadStep", "NoMark", "NotStruck", "BadOrder", "NotBare", "NoClash", "HoldsAnswer", "BadLine", "UnknownLine", "BadText", "NothingToUndo", "NothingToRedo", "UnknownStep", "BadDeed"] : List Str).any (subC e421.cn)) : Bool)).bind fun x422 => if (x422 || ((!(subC e421.cn "DeskError")) || (!(subC e421.cn "ValueError")))) = true then inB (some (none : Option Str)) else inB ((erF e421 "name").bind fun y425 => (FV.str? y425).bind fun z426 => some (some z426))) (s_let (i := 3) pBl sc_l_told_name.nd (x_kd (E := fun (b_ : Unit) => pBl ((["RepeatedName", "UnknownValue", "RepeatedValue", "UnknownKey", "RepeatedKey", "EmptyRule", "BadRow", "BadBounds", "BadNumber", "BadStep", "NoMark", "NotStruck", "BadOrder", "NotBare", "NoClash", "HoldsAnswer", "BadLine", "UnknownLine", "BadText", "NothingToUndo", "NothingToRedo", "UnknownStep", "BadDeed"] : List Str).any (subC e421.cn))) (x_isEC ["RepeatedName", "UnknownValue", "RepeatedValue", "UnknownKey", "RepeatedKey", "EmptyRule", "BadRow", "BadBounds", "BadNumber", "BadStep", "NoMark", "NotStruck", "BadOrder", "NotBare", "NoClash", "HoldsAnswer", "BadLine", "UnknownLine", "BadText", "NothingToUndo", "NothingToRedo", "UnknownStep", "BadDeed"] hz hf C.xs (by decide +kernel) (by decide) m_isinstance (x_var (p := pExc (erX mg rsL) a cls d e421) 4) (fun _ => (c_cons C.xs (by decide +kernel) (c_cons C.xs (by decide +kernel) (c_cons C.xs (by decide +kernel) (c_cons C.xs (by decide +kernel) (c_cons C.xs (by decide +kernel) (c_cons C.xs (by decide +kernel) (c_cons C.xs (by decide +kernel) (c_cons C.xs (by decide +kernel) (c_cons C.xs (by decide +kernel) (c_cons C.xs (by decide +kernel) (c_cons C.xs (by decide +kernel) (c_cons C.xs (by decide +kernel) (c_cons C.xs (by decide +kernel) (c_cons C.xs (by decide +kernel) (c_cons C.xs (by decide +kernel) (c_cons C.xs (by decide +kernel) (c_cons C.xs (by decide +kernel) (c_cons C.xs (by decide +kernel) (c_cons C.xs (by decide +kernel) (c_cons C.xs (by decide +kernel) (c_cons C.xs (by decide +kernel) (c_cons C.xs (by decide +kernel) (c_cons C.xs (by decide +kernel) c_nil)))))))))))))))))))))))))) fun (b423 : Unit) x422 => s_T (T := if (x422 || ((!(subC e421.cn "DeskError")) || (!(subC e421.cn "ValueError")))) = true then inB (some (none : Option Str)) else inB ((erF e421 "name").bind fun y425 => (FV.str? y425).bind fun z426 => some (some z426))) (s_ifB (ins_F _) (t_kd (c := fun (b_ : Unit) => (x422 || ((!(subC e421.cn "DeskError")) || (!(subC e421.cn "ValueError"))))) (PW.pt (w_or (t_totV x422 () (fun _ => rfl) (by exact (t_kd (c := fun (b_ : Unit) => x422) (t_val (y_var (p := pBl x422) 3))))) (w_or (t_totV (!(subC e421.cn "DeskError")) () (fun _ => rfl) (by exact (t_kd (c := fun (b_ : Unit) => (!(subC e421.cn "DeskError"))) (t_not (t_kd (c := fun (b_ : Unit) => (subC e421.cn "DeskError")) (t_val (x_kd (E := fun (b_ : Unit) => pBl (subC e421.cn "DeskError")) (x_isE1 (y := "DeskError") hz hf C.xs (by decide +kernel) m_isinstance (y_var (p := pExc (erX mg rsL) a cls d e421) 4))))))))) (w_or1 (t_totV (!(subC e421.cn "ValueError")) () (fun _ => rfl) (by exact (t_kd (c := fun (b_ : Unit) => (!(subC e421.cn "ValueError"))) (t_not (t_kd (c := fun (b_ : Unit) => (subC e421.cn "ValueError")) (t_val (x_kd (E := fun (b_ : Unit) => pBl (subC e421.cn "ValueError")) (x_isE1 (y := "ValueError") hz hf C.xs (by decide +kernel) m_isinstance (y_var (p := pExc (erX mg rsL) a cls d e421) 4)))))))))))))) (fun (b424 : Unit) => s_T (T := some (none : Option Str)) (s_ret (P := (fun _ => [])) (Rp := (pOp pStr)) (ι := id) (rv := fun (b : Unit) => (none : Option Str)) (fun _ _ _ h => h) (co_none (E := pStr) x_non) (fun _ => List.Sublist.refl _))) fun (b424 : Unit) => s_T (T := inB ((erF e421 "name").bind fun y425 => (FV.str? y425).bind fun z426 => some (some z426))) (s_tm (s_ret (P := (fun _ => [])) (Rp := (pOp pStr)) (ι := id) (rv := fun (b : ((Unit × FV) × Str)) => (some b.2)) (fun _ _ _ h => h) (x_kd (co_some (E := pStr) (x_kd (E := fun (b_ : ((Unit × FV) × Str)) => pStr b_.2) (x_fv (Ee := pStr) FV.str? fv_str (x_erF (f := "name") hz hf C.xs (x_var (p := pExc (erX mg rsL) a cls d e421) 4)))))) (fun _ => List.Sublist.refl _)))))) (fun s414 => s_T (T := some (none : Option Str)) (s_ret (P := (fun _ => [])) (Rp := (pOp pStr)) (ι := id) (rv := fun (b : Unit) => (none : Option Str)) (fun _ _ _ h => h) (co_none (E := pStr) x_non) (fun _ => List.Sublist.refl _))) (fun _ _ _ h => h) (ins_F _) (uns_F _) (fun _ => rfl) (fun _ _ _ _ _ h => nomatch h))) (by unfold M_l_told_name; rfl)
end
end My
end
section
set_option maxHeartbeats 4000000
set_option synthInstance.maxSize 2000
namespace My
open PySem PySem.Spec PyProof.Rows L2 L3
section
variable {P : Program} {w : World} {K : PySem.W.Frag} {mg : Str → Option Value} {base : Heap}
theorem sc_l_refused : FnScope ["_law_stream_here", "_law_sides", "_law_domains_here", "_law_strangers", "_law_pool_here", "_law_listed_here", "_law_name", "_law_spoilt", "_law_due", "_law_passed", "_law_given", "_law_short", "_law_at", "_law_told", "_law_domain"] ["_law_stream_here", "_law_sides", "_law_domains_here", "_law_strangers", "_law_pool_here"] (defScope (top 49)) := ⟨rfl, rfl, rfl, by decide +kernel, rfl, by decide +kernel, by decide +kernel⟩
theorem ok_l_refused {f : Addr} {fd : FuncData} (C : Ev P K mg) (FD : FnP K "_law_refused" (top 49) f fd)   : FnOk P w K mg base CX0 5 f fd ["_law_stream_here", "_law_sides", "_law_domains_here", "_law_strangers", "_law_pool_here"] (Sp_OFFFF_f (oL pInt) (pM (κ := Str) (pL pInt)) (pL (pT2 pStr (pL pInt))) (pL pStr) (pL pInt) M_l_refused pBl) := by
  have m_isinstance := C.m_isinstance
  have m_len := C.m_len
  have m_list := C.m_list
  have m_str := C.m_str
  obtain ⟨f_l_next, fd_l_next, F_l_next, g_l_next⟩ := C.f_l_next
  have k_l_next := ok_l_next (P := P) (w := w) (base := base) C F_l_next
  have b_l_next : Binds K fd_l_next ["_law_stream_here", "_law_size"] [] := F_l_next.bindsN fun _ _ _ _ _ _ us hl => match us, hl with | [_, _], _ => rfl
  obtain ⟨f_l_copied, fd_l_copied, F_l_copied, g_l_copied⟩ := C.f_l_copied
  have k_l_copied := ok_l_copied (P := P) (w := w) (base := base) C F_l_copied
  have b_l_copied : Binds K fd_l_copied ["_law_sides"] [] := F_l_copied.bindsN fun _ _ _ _ _ _ us hl => match us, hl with | [_], _ => rfl
  obtain ⟨f_l_told_name, fd_l_told_name, F_l_told_name, g_l_told_name⟩ := C.f_l_told_name
  have k_l_told_name := ok_l_told_name (P := P) (w := w) (base := base) C F_l_told_name
  have b_l_told_name : Binds K fd_l_told_name ["_law_short", "_law_sides", "_law_domains_here"] [] := F_l_told_name.bindsN fun _ _ _ _ _ _ us hl => match us, hl with | [_, _, _], _ => rfl
  obtain ⟨f_l_part, fd_l_part, F_l_part, g_l_part⟩ := C.f_l_part
  have k_l_part := ok_l_part (P := P) (w := w) (base := base) C F_l_part
  have b_l_part : Binds K fd_l_part ["_law_stream_here", "_law_side"] [] := F_l_part.bindsN fun _ _ _ _ _ _ us hl => match us, hl with | [_, _], _ => rfl
  refine fn_OFFFF_f FD sc_l_refused rfl fun cdv A outer s H E hr v1 G1 a1 a2 a3 a4 a5 => ?_
  exact s_is (s_T (T := (some ((a2.map Prod.fst) : List Str)).bind fun x427 => (M_l_next a1 (2 : Int)).bind fun r429 => (forS (cutL a4 none (some ((1 : Int) + (r429.1)))) ((x427, r429.2) : (List Str) × (List Int)) fun x432 s431 => (M_l_next (s431.2) (((s431.1).length : Int) + (1 : Int))).bind fun r476 => (some (r476.1 : Int)).bind fun x477 => grd ((cutL (s431.1) none (some x477)).length + ([x432]).length ≤ sizeLine) (grd (((cutL (s431.1) none (some x477)) ++ ([x432])).length + (cutL (s431.1) (some x477) none).length ≤ sizeLine) ((some ((((cutL (s431.1) none (some x477)) ++ ([x432])) ++ (cutL (s431.1) (some x477) none)) : List Str)).bind fun x479 => some (x479, r476.2)))).bind fun s433 => (some (([] : List (Str × List Int)) : List (Str × List Int))).bind fun x434 => (forS (s433.1) ((x434, s433.2) : (List (Str × List Int)) × (List Int)) fun x440 s439 => (if (dhas a2 x440) = true then (dget a2 x440).bind fun x472 => grd ((s439.1).length < sizeLine) (some ((dput (s439.1) x440 x472), s439.2)) else (M_l_part (s439.2) a5).bind fun r474 => grd ((s439.1).length < sizeLine) (some ((dput (s439.1) x440 (r474.1)), r474.2))).bind fun s471 => some (s471.1, s471.2)).bind fun s441 => (some ((((s433.1).filter fun x443 => (decide (x443 ∈ a4))).map fun x443 => x443) : List Str)).bind fun x444 => (M_l_copied (s441.1)).bind fun r448 => (some (r448 : List (Str × List Int))).bind fun x449 => (some (((a3.filter fun x452 => true).map fun x452 => (x452.1, x452.2)) : List (Str × List Int))).bind fun x453 => (forL ([false, true]) (() : Unit) fun x459 s458 => (M_l_told_name x459 x449 x453).bind fun r463 => (some (r463 : Option Str)).bind fun x464 => ((if (!(oSel x464 false true)) = true then some (true, ()) else (atI x444 (0 : Int)).bind fun x467 => some ((!decide (x464 = (some x467))), ()))).bind fun c468 => if c468.1 = true then inB (some (Tm.rt (false, s441.2))) else some (Bo.nx ())).bind (boK (fun s460 => ((if (deq x449 (s441.1)) = true then grd (okG (dgL dgStr) (x449.map Prod.fst) (s433.1) = true) (((if (decide ((x449.map Prod.fst) = (s433.1))) = true then grd (okG (dgL (dgT2 dgStr (dgL dgInt))) x453 a3 = true) (some ((decide (x453 = a3)), ())) else some (false, ()))).bind fun c461 => some (c461.1, ())) else some (false, ()))).bind fun c462 => some (c462.1, s441.2)) id)) (s_let (i := 5) (pL pStr) sc_l_refused.nd (x_kd (E := fun (b_ : Unit) => (pL pStr) (a2.map Prod.fst)) (x_frz (o_kd (E := fun (b_ : Unit) => (oL pStr) (a2.map Prod.fst)) (x_listD (κ := Str) (Ee := (pL pInt)) m_list (x_var (p := (pM (κ := Str) (pL pInt)) a2) 1) (fun _ => rdMF))))) fun (b428 : Unit) x427 => s_T (T := (M_l_next a1 (2 : Int)).bind fun r429 => (forS (cutL a4 none (some ((1 : Int) + (r429.1)))) ((x427, r429.2) : (List Str) × (List Int)) fun x432 s431 => (M_l_next (s431.2) (((s431.1).length : Int) + (1 : Int))).bind fun r476 => (some (r476.1 : Int)).bind fun x477 => grd ((cutL (s431.1) none (some x477)).length + ([x432]).length ≤ sizeLine) (grd (((cutL (s431.1) none (some x477)) ++ ([x432])).length + (cutL (s431.1) (some x477) none).length ≤ sizeLine) ((some ((((cutL (s431.1) none (some x477)) ++ ([x432])) ++ (cutL (s431.1) (some x477) none)) : List Str)).bind fun x479 => some (x479, r476.2)))).bind fun s433 => (some (([] : List (Str × List Int)) : List (Str × List Int))).bind fun x434 => (forS (s433.1) ((x434, s433.2) : (List (Str × List Int)) × (List Int)) fun x440 s439 => (if (dhas a2 x440) = true then (dget a2 x440).bind fun x472 => grd ((s439.1).length < sizeLine) (some ((dput (s439.1) x440 x472), s439.2)) else (M_l_part (s439.2) a5).bind fun r474 => grd ((s439.1).length < sizeLine) (some ((dput (s439.1) x440 (r474.1)), r474.2))).bind fun s471 => some (s471.1, s471.2)).bind fun s441 => (some ((((s433.1).filter fun x443 => (decide (x443 ∈ a4))).map fun x443 => x443) : List Str)).bind fun x444 => (M_l_copied (s441.1)).bind fun r448 => (some (r448 : List (Str × List Int))).bind fun x449 => (some (((a3.filter fun x452 => true).map fun x452 => (x452.1, x452.2)) : List (Str × List Int))).bind fun x453 => (forL ([false, true]) (() : Unit) fun x459 s458 => (M_l_told_name x459 x449 x453).bind fun r463 => (some (r463 : Option Str)).bind fun x464 => ((if (!(oSel x464 false true)) = true then some (true, ()) else (atI x444 (0 : Int)).bind fun x467 => some ((!decide (x464 = (some x467))), ()))).bind fun c468 => if c468.1 = true then inB (some (Tm.rt (false, s441.2))) else some (Bo.nx ())).bind (boK (fun s460 => ((if (deq x449 (s441.1)) = true then grd (okG (dgL dgStr) (x449.map Prod.fst) (s433.1) = true) (((if (decide ((x449.map Prod.fst) = (s433.1))) = true then grd (okG (dgL (dgT2 dgStr (dgL dgInt))) x453 a3 = true) (some ((decide (x453 = a3)), ())) else some (false, ()))).bind fun c461 => some (c461.1, ())) else some (false, ()))).bind fun c462 => some (c462.1, s441.2)) id)) (s_forS PassesOwn.never (fun (b_ : (Unit × (Unit × (Unit × ((Unit × Unit) × (Int × (List Int))))))) (s_ : (List Str) × (List Int)) => ([some (pV v1), some ((pM (κ := Str) (pL pInt)) a2), some ((pL (pT2 pStr (pL pInt))) a3), some ((pL pStr) a4), some ((pL pInt) a5), some ((pL pStr) s_.1), none, none, none, none, none, none, none, none, none], [⟨v1, (oL pInt) s_.2, some 0⟩])) (fun (b_ : (Unit × (Unit × (Unit × ((Unit × Unit) × (Int × (List Int))))))) => (x427, b_.2.2.2.2.2)) (i_list (x_kd (E := fun (b_ : (Unit × (Unit × (Unit × ((Unit × Unit) × (Int × (List Int))))))) => (pL pStr) (cutL a4 none (some ((1 : Int) + (b_.2.2.2.2.1))))) (x_frz (o_kd (E := fun (b_ : (Unit × (Unit × (Unit × ((Unit × Unit) × (Int × (List Int))))))) => (oL pStr) (cutL a4 none (some ((1 : Int) + (b_.2.2.2.2.1))))) (x_slL (Ee := pStr) (x_var (p := (pL pStr) a4) 3) (fun _ => p_none) (fun _ _ => p_some (i := fun (b_ : (Unit × ((Unit × Unit) × (Int × (List Int))))) => ((1 : Int) + (b_.2.2.1))) (x_kd (E := fun (b_ : (Unit × ((Unit × Unit) × (Int × (List Int))))) => pInt ((1 : Int) + (b_.2.2.1))) (x_add (x_int (i := 1)) (fun _ => x_kd (E := fun (b_ : ((Unit × Unit) × (Int × (List Int)))) => pInt b_.2.1) (x_OF_f (kk := 1) (E1 := (oL pInt)) (E2 := pInt) (s1 := fun (_ : Unit) (_ : Unit) => a1) (v1 := v1) k_l_next (hr.mono (by decide)) g_l_next F_l_next.kp b_l_next 0 (x_var (p := pV v1) 0) (fun _ => x_int (i := 2)) (fun _ _ => rfl)))))) (fun _ _ _ => rdF)))))) (pg_name (i := 6) sc_l_refused.nd rfl (by first | exact .inl rfl | exact .inr rfl)) (tg_name 6) (fun _ => (by exact ⟨rfl, rfl, rfl, rfl, rfl, rfl, trivial⟩)) (fun _ => List.Sublist.refl _) (fun b430 x432 s431 => s_T (T := (M_l_next (s431.2) (((s431.1).length : Int) + (1 : Int))).bind fun r476 => (some (r476.1 : Int)).bind fun x477 => grd ((cutL (s431.1) none (some x477)).length + ([x432]).length ≤ sizeLine) (grd (((cutL (s431.1) none (some x477)) ++ ([x432])).length + (cutL (s431.1) (some x477) none).length ≤ sizeLine) ((some ((((cutL (s431.1) none (some x477)) ++ ([x432])) ++ (cutL (s431.1) (some x477) none)) : List Str)).bind fun x479 => some (x479, r476.2)))) (s_let (i := 12) pInt sc_l_refused.nd (x_kd (E := fun (b_ : ((Unit × (Unit × Unit)) × (Int × (List Int)))) => pInt b_.2.1) (x_OF_f (kk := 1) (E1 := (oL pInt)) (E2 := pInt) (s1 := fun (_ : Unit) (_ : (Unit × Unit)) => s431.2) (v1 := v1) k_l_next (hr.mono (by decide)) g_l_next F_l_next.kp b_l_next 0 (x_var (p := pV v1) 0) (fun _ => x_kd (E := fun (b_ : (Unit × Unit)) => pInt (((s431.1).length : Int) + (1 : Int))) (x_add (x_kd (E := fun (b_ : Unit) => pInt ((s431.1).length : Int)) (x_lenL (Ee := pStr) m_len (x_var (p := (pL pStr) s431.1) 5) (fun _ => rdF))) (fun _ => x_int (i := 1)))) (fun _ _ => rfl))) fun (b478 : ((Unit × (Unit × Unit)) × (Int × (List Int)))) x477 => s_T (T := grd ((cutL (s431.1) none (some x477)).length + ([x432]).length ≤ sizeLine) (grd (((cutL (s431.1) none (some x477)) ++ ([x432])).length + (cutL (s431.1) (some x477) none).length ≤ sizeLine) ((some ((((cutL (s431.1) none (some x477)) ++ ([x432])) ++ (cutL (s431.1) (some x477) none)) : List Str)).bind fun x479 => some (x479, b478.2.2)))) (s_let (i := 5) (pL pStr) sc_l_refused.nd (x_kd (E := fun (b_ : (((Unit × (Unit × Unit)) × (Unit × Unit)) × (Unit × (Unit × Unit)))) => (pL pStr) (((cutL (s431.1) none (some x477)) ++ ([x432])) ++ (cutL (s431.1) (some x477) none))) (x_frz (o_kd (E := fun (b_ : (((Unit × (Unit × Unit)) × (Unit × Unit)) × (Unit × (Unit × Unit)))) => (oL pStr) (((cutL (s431.1) none (some x477)) ++ ([x432])) ++ (cutL (s431.1) (some x477) none))) (x_cat (Ee := pStr) (x_kd (E := fun (b_ : ((Unit × (Unit × Unit)) × (Unit × Unit))) => (pL pStr) ((cutL (s431.1) none (some x477)) ++ ([x432]))) (x_frz (o_kd (E := fun (b_ : ((Unit × (Unit × Unit)) × (Unit × Unit))) => (oL pStr) ((cutL (s431.1) none (some x477)) ++ ([x432]))) (x_cat (Ee := pStr) (x_kd (E := fun (b_ : (Unit × (Unit × Unit))) => (pL pStr) (cutL (s431.1) none (some x477))) (x_frz (o_kd (E := fun (b_ : (Unit × (Unit × Unit))) => (oL pStr) (cutL (s431.1) none (some x477))) (x_slL (Ee := pStr) (x_var (p := (pL pStr) s431.1) 5) (fun _ => p_none) (fun _ _ => p_some (i := fun (b_ : Unit) => x477) (x_var (p := pInt x477) 12)) (fun _ _ _ => rdF))))) (fun _ => x_kd (E := fun (b_ : (Unit × Unit)) => (pL pStr) ([x432])) (x_frz (o_kd (E := fun (b_ : (Unit × Unit)) => (oL pStr) ([x432])) (x_disp pStr (fun _ => [_]) (a_cons (x_var (p := pStr x432) 6) (fun _ => a_nil)) (fun _ => rfl) (fun _ => by simp))))) (fun _ _ => rdF) (fun _ _ => rdF))))) (fun _ => x_kd (E := fun (b_ : (Unit × (Unit × Unit))) => (pL pStr) (cutL (s431.1) (some x477) none)) (x_frz (o_kd (E := fun (b_ : (Unit × (Unit × Unit))) => (oL pStr) (cutL (s431.1) (some x477) none)) (x_slL (Ee := pStr) (x_var (p := (pL pStr) s431.1) 5) (fun _ => p_some (i := fun (b_ : Unit) => x477) (x_var (p := pInt x477) 12)) (fun _ _ => p_none) (fun _ _ _ => rdF))))) (fun _ _ => rdF) (fun _ _ => rdF))))) fun (b480 : (((Unit × (Unit × Unit)) × (Unit × Unit)) × (Unit × (Unit × Unit)))) x479 => s_end (x479, b478.2.2) rfl (by exact ⟨rfl, rfl, rfl, rfl, rfl, rfl, trivial⟩) (List.Sublist.refl _)))) fun b430 s433 => s_T (T := (some (([] : List (Str × List Int)) : List (Str × List Int))).bind fun x434 => (forS (s433.1) ((x434, s433.2) : (List (Str × List Int)) × (List Int)) fun x440 s439 => (if (dhas a2 x440) = true then (dget a2 x440).bind fun x472 => grd ((s439.1).length < sizeLine) (some ((dput (s439.1) x440 x472), s439.2)) else (M_l_part (s439.2) a5).bind fun r474 => grd ((s439.1).length < sizeLine) (some ((dput (s439.1) x440 (r474.1)), r474.2))).bind fun s471 => some (s471.1, s471.2)).bind fun s441 => (some ((((s433.1).filter fun x443 => (decide (x443 ∈ a4))).map fun x443 => x443) : List Str)).bind fun x444 => (M_l_copied (s441.1)).bind fun r448 => (some (r448 : List (Str × List Int))).bind fun x449 => (some (((a3.filter fun x452 => true).map fun x452 => (x452.1, x452.2)) : List (Str × List Int))).bind fun x453 => (forL ([false, true]) (() : Unit) fun x459 s458 => (M_l_told_name x459 x449 x453).bind fun r463 => (some (r463 : Option Str)).bind fun x464 => ((if (!(oSel x464 false true)) = true then some (true, ()) else (atI x444 (0 : Int)).bind fun x467 => some ((!decide (x464 = (some x467))), ()))).bind fun c468 => if c468.1 = true then inB (some (Tm.rt (false, s441.2))) else some (Bo.nx ())).bind (boK (fun s460 => ((if (deq x449 (s441.1)) = true then grd (okG (dgL dgStr) (x449.map Prod.fst) (s433.1) = true) (((if (decide ((x449.map Prod.fst) = (s433.1))) = true then grd (okG (dgL (dgT2 dgStr (dgL dgInt))) x453 a3 = true) (some ((decide (x453 = a3)), ())) else some (false, ()))).bind fun c461 => some (c461.1, ())) else some (false, ()))).bind fun c462 => some (c462.1, s441.2)) id)) (s_letO (i := 7) (oM (κ := Str) (pL pInt)) sc_l_refused.nd (o_kd (E := fun (b_ : Unit) => (oM (κ := Str) (pL pInt)) ([] : List (Str × List Int))) (x_dict0 (κ := Str) (pL pInt))) fun (b435 : Unit) x434 v437 => s_T (T := (forS (s433.1) ((x434, s433.2) : (List (Str × List Int)) × (List Int)) fun x440 s439 => (if (dhas a2 x440) = true then (dget a2 x440).bind fun x472 => grd ((s439.1).length < sizeLine) (some ((dput (s439.1) x440 x472), s439.2)) else (M_l_part (s439.2) a5).bind fun r474 => grd ((s439.1).length < sizeLine) (some ((dput (s439.1) x440 (r474.1)), r474.2))).bind fun s471 => some (s471.1, s471.2)).bind fun s441 => (some ((((s433.1).filter fun x443 => (decide (x443 ∈ a4))).map fun x443 => x443) : List Str)).bind fun x444 => (M_l_copied (s441.1)).bind fun r448 => (some (r448 : List (Str × List Int))).bind fun x449 => (some (((a3.filter fun x452 => true).map fun x452 => (x452.1, x452.2)) : List (Str × List Int))).bind fun x453 => (forL ([false, true]) (() : Unit) fun x459 s458 => (M_l_told_name x459 x449 x453).bind fun r463 => (some (r463 : Option Str)).bind fun x464 => ((if (!(oSel x464 false true)) = true then some (true, ()) else (atI x444 (0 : Int)).bind fun x467 => some ((!decide (x464 = (some x467))), ()))).bind fun c468 => if c468.1 = true then inB (some (Tm.rt (false, s441.2))) else some (Bo.nx ())).bind (boK (fun s460 => ((if (deq x449 (s441.1)) = true then grd (okG (dgL dgStr) (x449.map Prod.fst) (s433.1) = true) (((if (decide ((x449.map Prod.fst) = (s433.1))) = true then grd (okG (dgL (dgT2 dgStr (dgL dgInt))) x453 a3 = true) (some ((decide (x453 = a3)), ())) else some (false, ()))).bind fun c461 => some (c461.1, ())) else some (false, ()))).bind fun c462 => some (c462.1, s441.2)) id)) (s_forS PassesOwn.never (fun (b_ : Unit) (s_ : (List (Str × List Int)) × (List Int)) => ([some (pV v1), some ((pM (κ := Str) (pL pInt)) a2), some ((pL (pT2 pStr (pL pInt))) a3), some ((pL pStr) a4), some ((pL pInt) a5), some ((pL pStr) s433.1), none, some (pV v437), none, none, none, none, none, none, none], [⟨v437, (oM (κ := Str) (pL pInt)) s_.1, none⟩, ⟨v1, (oL pInt) s_.2, some 0⟩])) (fun (b_ : Unit) => (x434, s433.2)) (i_list (x_var (p := (pL pStr) s433.1) 5)) (pg_name (i := 6) sc_l_refused.nd rfl (by first | exact .inl rfl | exact .inr rfl)) (tg_name 6) (fun _ => (by exact ⟨rfl, rfl, rfl, rfl, rfl, rfl, rfl, trivial⟩)) (fun _ => List.Sublist.refl _) (fun b438 x440 s439 => s_T (T := (if (dhas a2 x440) = true then (dget a2 x440).bind fun x472 => grd ((s439.1).length < sizeLine) (some ((dput (s439.1) x440 x472), s439.2)) else (M_l_part (s439.2) a5).bind fun r474 => grd ((s439.1).length < sizeLine) (some ((dput (s439.1) x440 (r474.1)), r474.2))).bind fun s471 => some (s471.1, s471.2)) (s_ifN (C := fun s_ : (List (Str × List Int)) × (List Int) => ([some (pV v1), some ((pM (κ := Str) (pL pInt)) a2), some ((pL (pT2 pStr (pL pInt))) a3), some ((pL pStr) a4), some ((pL pInt) a5), some ((pL pStr) s433.1), some (pStr x440), some (pV v437), none, none, none, none, none, none, none], [⟨v437, (oM (κ := Str) (pL pInt)) s_.1, none⟩, ⟨v1, (oL pInt) s_.2, some 0⟩])) (t_kd (c := fun (b_ : (Unit × Unit)) => (dhas a2 x440)) (t_din (κ := Str) (Ee := (pL pInt)) hr.units (x_var (p := pStr x440) 6) (fun _ => x_var (p := (pM (κ := Str) (pL pInt)) a2) 1) (fun _ _ => rdMF))) (fun (b470 : (Unit × Unit)) => s_T (T := (dget a2 x440).bind fun x472 => grd ((s439.1).length < sizeLine) (some ((dput (s439.1) x440 x472), s439.2))) (s_dput (κ := Str) (Ee := (pL pInt)) 0 hr.units (x_kd (E := fun (b_ : ((Unit × Unit) × (List Int))) => (pL pInt) b_.2) (x_frz (o_kd (E := fun (b_ : ((Unit × Unit) × (List Int))) => (oL pInt) b_.2) (x_listL (Ee := pInt) m_list (x_kd (E := fun (b_ : ((Unit × Unit) × (List Int))) => (pL pInt) b_.2) (x_dget (κ := Str) (Ee := (pL pInt)) hr.units (x_var (p := (pM (κ := Str) (pL pInt)) a2) 1) (fun _ => x_var (p := pStr x440) 6) (fun _ _ => rdMF))) (fun _ => rdF))))) (fun _ => x_var (p := pV v437) 7) (fun _ _ => x_var (p := pStr x440) 6) (fun _ _ _ => rfl) fun (b473 : ((((Unit × Unit) × (List Int)) × Unit) × Unit)) => s_end ((dput (s439.1) x440 b473.1.1.2), s439.2) rfl (by exact ⟨rfl, rfl, rfl, rfl, rfl, rfl, rfl, rfl, trivial⟩) (List.Sublist.refl _))) (fun (b470 : (Unit × Unit)) => s_T (T := (M_l_part (s439.2) a5).bind fun r474 => grd ((s439.1).length < sizeLine) (some ((dput (s439.1) x440 (r474.1)), r474.2))) (s_dput (κ := Str) (Ee := (pL pInt)) 0 hr.units (x_kd (E := fun (b_ : ((Unit × Unit) × ((List Int) × (List Int)))) => (pL pInt) b_.2.1) (x_frz (o_kd (E := fun (b_ : ((Unit × Unit) × ((List Int) × (List Int)))) => (oL pInt) b_.2.1) (x_OF_o (kk := 2) (E1 := (oL pInt)) (E2 := (pL pInt)) (s1 := fun (_ : Unit) (_ : Unit) => s439.2) (v1 := v1) k_l_part (hr.mono (by decide)) g_l_part F_l_part.kp b_l_part 1 (x_var (p := pV v1) 0) (fun _ => x_var (p := (pL pInt) a5) 4) (fun _ _ => rfl))))) (fun _ => x_var (p := pV v437) 7) (fun _ _ => x_var (p := pStr x440) 6) (fun _ _ _ => rfl) fun (b475 : ((((Unit × Unit) × ((List Int) × (List Int))) × Unit) × Unit)) => s_end ((dput (s439.1) x440 (b475.1.1.2.1)), b475.1.1.2.2) rfl (by exact ⟨rfl, rfl, rfl, rfl, rfl, rfl, rfl, rfl, trivial⟩) (List.Sublist.refl _))) fun (b470 : (Unit × Unit)) s471 => s_end (s471.1, s471.2) rfl (by exact ⟨rfl, rfl, rfl, rfl, rfl, rfl, rfl, trivial⟩) (List.Sublist.refl _))) fun b438 s441 => s_frz (i := 7) (c := ⟨v437, (oM (κ := Str) (pL pInt)) s441.1, none⟩) 0 (s_T (T := (some ((((s433.1).filter fun x443 => (decide (x443 ∈ a4))).map fun x443 => x443) : List Str)).bind fun x444 => (M_l_copied (s441.1)).bind fun r448 => (some (r448 : List (Str × List Int))).bind fun x449 => (some (((a3.filter fun x452 => true).map fun x452 => (x452.1, x452.2)) : List (Str × List Int))).bind fun x453 => (forL ([false, true]) (() : Unit) fun x459 s458 => (M_l_told_name x459 x449 x453).bind fun r463 => (some (r463 : Option Str)).bind fun x464 => ((if (!(oSel x464 false true)) = true then some (true, ()) else (atI x444 (0 : Int)).bind fun x467 => some ((!decide (x464 = (some x467))), ()))).bind fun c468 => if c468.1 = true then inB (some (Tm.rt (false, s441.2))) else some (Bo.nx ())).bind (boK (fun s460 => ((if (deq x449 (s441.1)) = true then grd (okG (dgL dgStr) (x449.map Prod.fst) (s433.1) = true) (((if (decide ((x449.map Prod.fst) = (s433.1))) = true then grd (okG (dgL (dgT2 dgStr (dgL dgInt))) x453 a3 = true) (some ((decide (x453 = a3)), ())) else some (false, ()))).bind fun c461 => some (c461.1, ())) else some (false, ()))).bind fun c462 => some (c462.1, s441.2)) id)) (s_letOA (i := 8) (oL pStr) (a_lcT (i := 8) (own := [("_law_name", 6)]) sc_l_refused.nd (i_list (x_var (p := (pL pStr) s433.1) 5)) (blkOk_by (own := [("_law_name", 6)]) (N := ["_law_stream_here", "_law_sides", "_law_domains_here", "_law_strangers", "_law_pool_here", "_law_listed_here", "_law_name", "_law_spoilt", "_law_due", "_law_passed", "_law_given", "_law_short", "_law_at", "_law_told", "_law_domain"]) (sc := (defScope (top 49))) (by decide +kernel)) (fun _ _ _ _ _ => pg_name (i := 6) sc_l_refused.nd rfl (by first | exact .inl rfl | exact .inr rfl)) (tw_name 6) (fun _ _ _ _ _ _ b442 x443 _ _ => pts_one (t_tot ((), ()) (fun _ => rfl) (t_kd (c := fun (b_ : (Unit × Unit)) => (decide (x443 ∈ a4))) (t_inL flStr (y_var (p := pStr x443) 6) (fun _ => y_var (p := (pL pStr) a4) 3) (fun _ _ => rdF))))) (fun _ _ _ _ _ _ b442 x443 _ _ => (y_var (p := pStr x443) 6)) (sw_true rfl rfl rfl (by decide +kernel))) fun (b445 : Unit) x444 v447 => s_frz (i := 8) (c := ⟨v447, (oL pStr) x444, none⟩) 0 (s_T (T := (M_l_copied (s441.1)).bind fun r448 => (some (r448 : List (Str × List Int))).bind fun x449 => (some (((a3.filter fun x452 => true).map fun x452 => (x452.1, x452.2)) : List (Str × List Int))).bind fun x453 => (forL ([false, true]) (() : Unit) fun x459 s458 => (M_l_told_name x459 x449 x453).bind fun r463 => (some (r463 : Option Str)).bind fun x464 => ((if (!(oSel x464 false true)) = true then some (true, ()) else (atI x444 (0 : Int)).bind fun x467 => some ((!decide (x464 = (some x467))), ()))).bind fun c468 => if c468.1 = true then inB (some (Tm.rt (false, s441.2))) else some (Bo.nx ())).bind (boK (fun s460 => ((if (deq x449 (s441.1)) = true then grd (okG (dgL dgStr) (x449.map Prod.fst) (s433.1) = true) (((if (decide ((x449.map Prod.fst) = (s433.1))) = true then grd (okG (dgL (dgT2 dgStr (dgL dgInt))) x453 a3 = true) (some ((decide (x453 = a3)), ())) else some (false, ()))).bind fun c461 => some (c461.1, ())) else some (false, ()))).bind fun c462 => some (c462.1, s441.2)) id)) (s_let (i := 9) (pM (κ := Str) (pL pInt)) sc_l_refused.nd (x_kd (E := fun (b_ : (Unit × (List (Str × List Int)))) => (pM (κ := Str) (pL pInt)) b_.2) (x_frz (o_kd (E := fun (b_ : (Unit × (List (Str × List Int)))) => (oM (κ := Str) (pL pInt)) b_.2) (x_F_o (kk := 1) (E1 := (pM (κ := Str) (pL pInt))) k_l_copied (hr.mono (by decide)) g_l_copied F_l_copied.kp b_l_copied (x_var (p := (pM (κ := Str) (pL pInt)) s441.1) 7))))) fun (b450 : (Unit × (List (Str × List Int)))) x449 => s_T (T := (some (((a3.filter fun x452 => true).map fun x452 => (x452.1, x452.2)) : List (Str × List Int))).bind fun x453 => (forL ([false, true]) (() : Unit) fun x459 s458 => (M_l_told_name x459 x449 x453).bind fun r463 => (some (r463 : Option Str)).bind fun x464 => ((if (!(oSel x464 false true)) = true then some (true, ()) else (atI x444 (0 : Int)).bind fun x467 => some ((!decide (x464 = (some x467))), ()))).bind fun c468 => if c468.1 = true then inB (some (Tm.rt (false, s441.2))) else some (Bo.nx ())).bind (boK (fun s460 => ((if (deq x449 (s441.1)) = true then grd (okG (dgL dgStr) (x449.map Prod.fst) (s433.1) = true) (((if (decide ((x449.map Prod.fst) = (s433.1))) = true then grd (okG (dgL (dgT2 dgStr (dgL dgInt))) x453 a3 = true) (some ((decide (x453 = a3)), ())) else some (false, ()))).bind fun c461 => some (c461.1, ())) else some (false, ()))).bind fun c462 => some (c462.1, s441.2)) id)) (s_letOA (i := 10) (oL (pT2 pStr (pL pInt))) (a_lcT (i := 10) (own := [("_law_domain", 14)]) sc_l_refused.nd (i_list (x_var (p := (pL (pT2 pStr (pL pInt))) a3) 2)) (blkOk_by (own := [("_law_domain", 14)]) (N := ["_law_stream_here", "_law_sides", "_law_domains_here", "_law_strangers", "_law_pool_here", "_law_listed_here", "_law_name", "_law_spoilt", "_law_due", "_law_passed", "_law_given", "_law_short", "_law_at", "_law_told", "_law_domain"]) (sc := (defScope (top 49))) (by decide +kernel)) (fun _ _ _ _ _ => pg_name (i := 14) sc_l_refused.nd rfl (by first | exact .inl rfl | exact .inr rfl)) (tw_name 14) (fun _ _ _ _ _ _ b451 x452 _ _ => pts_T) (fun _ _ _ _ _ _ b451 x452 _ _ => (x_totV ((pT2 pStr (pL pInt)) («x452».1, «x452».2)) ((), ((), ())) (fun _ => rfl) (by exact (x_kd (E := fun (b_ : (Unit × (Unit × Unit))) => (pT2 pStr (pL pInt)) (x452.1, x452.2)) (x_tp2 pStr (pL pInt) (fun (b : (Unit × (Unit × Unit))) => x452.1) (fun (b : (Unit × (Unit × Unit))) => x452.2) (pa_kd (a_cons (x_kd (E := fun (b_ : Unit) => pStr x452.1) (x_fst (y_var (p := (pT2 pStr (pL pInt)) x452) 14))) (fun _ => a_cons (x_kd (E := fun (b_ : Unit) => (pL pInt) x452.2) (x_frz (o_kd (E := fun (b_ : Unit) => (oL pInt) x452.2) (x_listL (Ee := pInt) m_list (x_kd (E := fun (b_ : Unit) => (pL pInt) x452.2) (x_snd (y_var (p := (pT2 pStr (pL pInt)) x452) 14))) (fun _ => rdF))))) (fun _ => b_nil))))))))) (sw_true rfl rfl rfl (by decide +kernel))) fun (b454 : Unit) x453 v456 => s_frz (i := 10) (c := ⟨v456, (oL (pT2 pStr (pL pInt))) x453, none⟩) 0 (s_T (T := (forL ([false, true]) (() : Unit) fun x459 s458 => (M_l_told_name x459 x449 x453).bind fun r463 => (some (r463 : Option Str)).bind fun x464 => ((if (!(oSel x464 false true)) = true then some (true, ()) else (atI x444 (0 : Int)).bind fun x467 => some ((!decide (x464 = (some x467))), ()))).bind fun c468 => if c468.1 = true then inB (some (Tm.rt (false, s441.2))) else some (Bo.nx ())).bind (boK (fun s460 => ((if (deq x449 (s441.1)) = true then grd (okG (dgL dgStr) (x449.map Prod.fst) (s433.1) = true) (((if (decide ((x449.map Prod.fst) = (s433.1))) = true then grd (okG (dgL (dgT2 dgStr (dgL dgInt))) x453 a3 = true) (some ((decide (x453 = a3)), ())) else some (false, ()))).bind fun c461 => some (c461.1, ())) else some (false, ()))).bind fun c462 => some (c462.1, s441.2)) id)) (s_for PassesOwn.never (fun (b_ : (Unit × (Unit × Unit))) (s_ : Unit) => ([some (pV v1), some ((pM (κ := Str) (pL pInt)) a2), some ((pL (pT2 pStr (pL pInt))) a3), some ((pL pStr) a4), some ((pL pInt) a5), some ((pL pStr) s433.1), none, some ((pM (κ := Str) (pL pInt)) s441.1), some ((pL pStr) x444), some ((pM (κ := Str) (pL pInt)) x449), some ((pL (pT2 pStr (pL pInt))) x453), none, none, none, none], [⟨v1, (oL pInt) s441.2, some 0⟩])) (fun (b_ : (Unit × (Unit × Unit))) => ()) (ι := id) (R := (RF ⟨H, [G1]⟩ (fun (r : Bool × (List Int)) => [⟨v1, (oL pInt) r.2, some 0⟩]) (fun (r : Bool × (List Int)) => pBl r.1))) (i_list (x_kd (E := fun (b_ : (Unit × (Unit × Unit))) => (pL pBl) ([false, true])) (x_frz (o_kd (E := fun (b_ : (Unit × (Unit × Unit))) => (oL pBl) ([false, true])) (x_disp pBl (fun _ => [_, _]) (a_cons x_bl (fun _ => a_cons x_bl (fun _ => a_nil))) (fun _ => rfl) (fun _ => by simp)))))) (pg_name (i := 11) sc_l_refused.nd rfl (by first | exact .inl rfl | exact .inr rfl)) (tg_name 11) (fun _ => (by exact ⟨rfl, rfl, rfl, rfl, rfl, rfl, rfl, rfl, rfl, rfl, trivial⟩)) (fun _ => List.Sublist.refl _) (fun b457 x459 s458 => s_T (T := (M_l_told_name x459 x449 x453).bind fun r463 => (some (r463 : Option Str)).bind fun x464 => ((if (!(oSel x464 false true)) = true then some (true, ()) else (atI x444 (0 : Int)).bind fun x467 => some ((!decide (x464 = (some x467))), ()))).bind fun c468 => if c468.1 = true then inB (some (Tm.rt (false, s441.2))) else some (Bo.nx ())) (s_let (i := 13) (pOp pStr) sc_l_refused.nd (x_kd (E := fun (b_ : ((Unit × (Unit × Unit)) × (Option Str))) => (pOp pStr) b_.2) (x_FFF_f (kk := 4) (E1 := pBl) (E2 := (pM (κ := Str) (pL pInt))) (E3 := (pL (pT2 pStr (pL pInt)))) k_l_told_name (hr.mono (by decide)) g_l_told_name F_l_told_name.kp b_l_told_name (x_var (p := pBl x459) 11) (fun _ => x_var (p := (pM (κ := Str) (pL pInt)) x449) 9) (fun _ _ => x_var (p := (pL (pT2 pStr (pL pInt))) x453) 10))) fun (b465 : ((Unit × (Unit × Unit)) × (Option Str))) x464 => s_T (T := ((if (!(oSel x464 false true)) = true then some (true, ()) else (atI x444 (0 : Int)).bind fun x467 => some ((!decide (x464 = (some x467))), ()))).bind fun c468 => if c468.1 = true then inB (some (Tm.rt (false, s441.2))) else some (Bo.nx ())) (s_ifB ins_T (t_kd (c := fun (b_ : (Unit × (Bool × Unit))) => b_.2.1) (PW.pt (w_orM (ΔS := fun (b_ : Unit) (s_ : Unit) => [⟨v1, (oL pInt) s441.2, some 0⟩]) (s1 := fun (b_ : Unit) => ()) (s2 := fun (b_ : Unit) (c_ : (Unit × ((Unit × Unit) × Str))) => ()) (t_kd (c := fun (b_ : Unit) => (!(oSel x464 false true))) (t_not (t_kd (c := fun (b_ : Unit) => (oSel x464 false true)) (t_val (x_kd (E := fun (b_ : Unit) => pBl (oSel x464 false true)) (x_isi (cn := "str") _ _ m_isinstance m_str (x_var (p := (pOp pStr) x464) 13) (fun _ => tyOp fun _ => tyStr) (fun _ => kitOp (r := false) (q := true) (by decide +kernel) (by decide +kernel)) (by decide +kernel))))))) (fun _ => w_or1 (t_kd (c := fun (b_ : (Unit × ((Unit × Unit) × Str))) => (!decide (x464 = (some b_.2.2)))) (t_neOS (x_var (p := (pOp pStr) x464) 13) (fun _ => co_some (E := pStr) (x_kd (E := fun (b_ : ((Unit × Unit) × Str)) => pStr b_.2) (x_ixL (Ee := pStr) (x_var (p := (pL pStr) x444) 8) (fun _ => x_int (i := 0)) (fun _ _ => rdF))))))) (fun _ => rfl) (fun _ _ => rfl)))) (fun (b469 : (Unit × (Bool × Unit))) => s_T (T := some (Tm.rt (false, s441.2))) (s_ret (P := (fun (r : Bool × (List Int)) => [⟨v1, (oL pInt) r.2, some 0⟩])) (Rp := (fun (r : Bool × (List Int)) => pBl r.1)) (ι := Tm.rt) (rv := fun (b : Unit) => (false, s441.2)) (fun _ _ _ h => h) x_bl (fun _ => List.Sublist.refl _))) fun (b469 : (Unit × (Bool × Unit))) => s_endB () (by exact ⟨rfl, rfl, rfl, rfl, rfl, rfl, rfl, rfl, rfl, rfl, trivial⟩) (List.Sublist.refl _)))) (fun b457 s460 => s_T (T := ((if (deq x449 (s441.1)) = true then grd (okG (dgL dgStr) (x449.map Prod.fst) (s433.1) = true) (((if (decide ((x449.map Prod.fst) = (s433.1))) = true then grd (okG (dgL (dgT2 dgStr (dgL dgInt))) x453 a3 = true) (some ((decide (x453 = a3)), ())) else some (false, ()))).bind fun c461 => some (c461.1, ())) else some (false, ()))).bind fun c462 => some (c462.1, s441.2)) (s_ret (P := (fun (r : Bool × (List Int)) => [⟨v1, (oL pInt) r.2, some 0⟩])) (Rp := (fun (r : Bool × (List Int)) => pBl r.1)) (ι := id) (rv := fun (b : ((Unit × Unit) × (Bool × Unit))) => (b.2.1, s441.2)) (fun _ _ _ h => h) (x_kd (x_kd (E := fun (b_ : ((Unit × Unit) × (Bool × Unit))) => pBl b_.2.1) (v_andM (ΔS := fun (b_ : (Unit × Unit)) (s_ : Unit) => [⟨v1, (oL pInt) s441.2, some 0⟩]) (s1 := fun (b_ : (Unit × Unit)) => ()) (s2 := fun (b_ : (Unit × Unit)) (c_ : ((Unit × Unit) × (Bool × Unit))) => ()) (x_kd (E := fun (b_ : (Unit × Unit)) => pBl (deq x449 (s441.1))) (x_eqM (κ := Str) (room66 hr) (dtL dtInt) (x_var (p := (pM (κ := Str) (pL pInt)) x449) 9) (fun _ => x_var (p := (pM (κ := Str) (pL pInt)) s441.1) 7) (fun _ _ => rdMF) (fun _ _ => rdMF))) (fun _ => v_andM (ΔS := fun (b_ : (Unit × Unit)) (s_ : Unit) => [⟨v1, (oL pInt) s441.2, some 0⟩]) (s1 := fun (b_ : (Unit × Unit)) => ()) (s2 := fun (b_ : (Unit × Unit)) (c_ : (Unit × Unit)) => ()) (x_kd (E := fun (b_ : (Unit × Unit)) => pBl (decide ((x449.map Prod.fst) = (s433.1)))) (x_eqG (dgL dgStr) hr.units (x_kd (E := fun (b_ : Unit) => (pL pStr) (x449.map Prod.fst)) (x_frz (o_kd (E := fun (b_ : Unit) => (oL pStr) (x449.map Prod.fst)) (x_listD (κ := Str) (Ee := (pL pInt)) m_list (x_var (p := (pM (κ := Str) (pL pInt)) x449) 9) (fun _ => rdMF))))) (fun _ => x_var (p := (pL pStr) s433.1) 5))) (fun _ => v_one (x_kd (E := fun (b_ : (Unit × Unit)) => pBl (decide (x453 = a3))) (x_eqG (dgL (dgT2 dgStr (dgL dgInt))) hr.units (x_var (p := (pL (pT2 pStr (pL pInt))) x453) 10) (fun _ => x_var (p := (pL (pT2 pStr (pL pInt))) a3) 2)))) (fun _ => rfl) (fun _ _ => rfl)) (fun _ => rfl) (fun _ _ => rfl)))) (fun _ => List.Sublist.refl _))) (fun _ _ _ h => h))))))))))))) (by unfold M_l_refused; rfl)
end
end My
end
section
set_option maxHeartbeats 4000000
set_option synthInstance.maxSize 2000
namespace My
open PySem PySem.Spec PyProof.Rows L2 L3
section
variable {P : Program} {w : World} {K : PySem.W.Frag} {mg : Str → Option Value} {base : Heap}
theorem sc_law : FnScope ["_law_script", "_law_stream_here", "_law_pool_here", "_law_count", "_law_names_here", "_law_domains_here", "_law_sides", "_law_name", "_law_at"] ["_law_script"] (defScope (top 50)) := ⟨rfl, rfl, rfl, by decide +kernel, rfl, by decide +kernel, by decide +kernel⟩
theorem ok_law {f : Addr} {fd : FuncData} (C : Ev P K mg) (FD : FnP K "law" (top 50) f fd)   : FnOk P w K mg base CX0 6 f fd ["_law_script"] (Sp_S K M_law) := by
  obtain ⟨f_l_stream, fd_l_stream, F_l_stream, g_l_stream⟩ := C.f_l_stream
  have k_l_stream := ok_l_stream (P := P) (w := w) (base := base) C F_l_stream
  have b_l_stream : Binds K fd_l_stream ["_law_script", "_law_k"] [] := F_l_stream.bindsN fun _ _ _ _ _ _ us hl => match us, hl with | [_, _], _ => rfl
  obtain ⟨f_l_pool, fd_l_pool, F_l_pool, g_l_pool⟩ := C.f_l_pool
  have k_l_pool := ok_l_pool (P := P) (w := w) (base := base) C F_l_pool
  have b_l_pool : Binds K fd_l_pool ["_law_stream_here", "_law_count"] [] := F_l_pool.bindsN fun _ _ _ _ _ _ us hl => match us, hl with | [_, _], _ => rfl
  obtain ⟨f_l_next, fd_l_next, F_l_next, g_l_next⟩ := C.f_l_next
  have k_l_next := ok_l_next (P := P) (w := w) (base := base) C F_l_next
  have b_l_next : Binds K fd_l_next ["_law_stream_here", "_law_size"] [] := F_l_next.bindsN fun _ _ _ _ _ _ us hl => match us, hl with | [_, _], _ => rfl
  obtain ⟨f_l_names, fd_l_names, F_l_names, g_l_names⟩ := C.f_l_names
  have k_l_names := ok_l_names (P := P) (w := w) (base := base) C F_l_names
  have b_l_names : Binds K fd_l_names ["_law_stream_here", "_law_count"] [] := F_l_names.bindsN fun _ _ _ _ _ _ us hl => match us, hl with | [_, _], _ => rfl
  obtain ⟨f_l_domains, fd_l_domains, F_l_domains, g_l_domains⟩ := C.f_l_domains
  have k_l_domains := ok_l_domains (P := P) (w := w) (base := base) C F_l_domains
  have b_l_domains : Binds K fd_l_domains ["_law_stream_here", "_law_names_here", "_law_pool_here", "_law_most"] [] := F_l_domains.bindsN fun _ _ _ _ _ _ us hl => match us, hl with | [_, _, _, _], _ => rfl
  obtain ⟨f_l_listed, fd_l_listed, F_l_listed, g_l_listed⟩ := C.f_l_listed
  have k_l_listed := ok_l_listed (P := P) (w := w) (base := base) C F_l_listed
  have b_l_listed : Binds K fd_l_listed ["_law_stream_here", "_law_names_here"] [] := F_l_listed.bindsN fun _ _ _ _ _ _ us hl => match us, hl with | [_, _], _ => rfl
  obtain ⟨f_l_formed, fd_l_formed, F_l_formed, g_l_formed⟩ := C.f_l_formed
  have k_l_formed := ok_l_formed (P := P) (w := w) (base := base) C F_l_formed
  have b_l_formed : Binds K fd_l_formed ["_law_sides", "_law_domains_here"] [] := F_l_formed.bindsN fun _ _ _ _ _ _ us hl => match us, hl with | [_, _], _ => rfl
  obtain ⟨f_l_refused, fd_l_refused, F_l_refused, g_l_refused⟩ := C.f_l_refused
  have k_l_refused := ok_l_refused (P := P) (w := w) (base := base) C F_l_refused
  have b_l_refused : Binds K fd_l_refused ["_law_stream_here", "_law_sides", "_law_domains_here", "_law_strangers", "_law_pool_here"] [] := F_l_refused.bindsN fun _ _ _ _ _ _ us hl => match us, hl with | [_, _, _, _, _], _ => rfl
  obtain ⟨f_l_drawn_side, fd_l_drawn_side, F_l_drawn_side, g_l_drawn_side⟩ := C.f_l_drawn_side
  have k_l_drawn_side := ok_l_drawn_side (P := P) (w := w) (base := base) C F_l_drawn_side
  have b_l_drawn_side : Binds K fd_l_drawn_side ["_law_stream_here", "_law_side", "_law_pool_here"] [] := F_l_drawn_side.bindsN fun _ _ _ _ _ _ us hl => match us, hl with | [_, _, _], _ => rfl
  refine fn_S FD sc_law rfl fun cdv A outer s H E hr Mq a1 => ?_
  exact s_is (s_T (T := (M_l_stream a1 (0 : Int)).bind fun r481 => (some (r481 : List Int)).bind fun x482 => (M_l_next x482 (4 : Int)).bind fun r486 => (M_l_pool (r486.2) ((2 : Int) + (r486.1))).bind fun r487 => (some (r487.1 : List Int)).bind fun x488 => (M_l_next (r487.2) (7 : Int)).bind fun r490 => (some (r490.1 : Int)).bind fun x491 => (M_l_names (r490.2) (x491 + (2 : Int))).bind fun r493 => (some (r493.1 : List Str)).bind fun x494 => (M_l_domains (r493.2) (cutL x494 none (some x491)) x488 (4 : Int)).bind fun r496 => (some (r496.1 : List (Str × List Int))).bind fun x497 => ((if (decide ((0 : Int) < x491)) = true then (M_l_next (r496.2) (5 : Int)).bind fun r502 => some ((decide ((r502.1) = (0 : Int))), r502.2) else some (false, r496.2))).bind fun c503 => (if c503.1 = true then (M_l_next (c503.2) x491).bind fun r530 => (some (r530.1 : Int)).bind fun x531 => (atI x497 x531).bind fun x533 => (ixN x497.length x531).bind fun (_ : Nat) => some ((x497.set ((ixN x497.length x531).getD 0) (x533.1, [])), r530.2) else some (x497, c503.2)).bind fun s505 => (M_l_stream a1 (1 : Int)).bind fun r506 => (some (r506 : List Int)).bind fun x507 => (some (([] : List (Str × List Int)) : List (Str × List Int))).bind fun x512 => (M_l_listed x507 (cutL x494 none (some x491))).bind fun r516 => (forS (r516.1) ((x512, r516.2) : (List (Str × List Int)) × (List Int)) fun x519 s518 => (idx? x519 x494).bind fun n526 => (atI (s505.1) (n526 : Int)).bind fun x527 => (M_l_drawn_side (s518.2) (x527.2) x488).bind fun r528 => grd ((s518.1).length < sizeLine) (some ((dput (s518.1) x519 (r528.1)), r528.2))).bind fun s520 => (M_l_formed (s520.1) (s505.1)).bind fun r521 => if (!r521) = true then some false else (M_l_next (s520.2) (3 : Int)).bind fun r523 => if (decide ((0 : Int) < (r523.1))) = true then some true else (M_l_refused (r523.2) (s520.1) (s505.1) (cutL x494 (some x491) none) x488).bind fun r525 => some (r525.1)) (s_letO (i := 1) (oL pInt) sc_law.nd (o_kd (E := fun (b_ : ((Unit × Unit) × (List Int))) => (oL pInt) b_.2) (x_FF_o (kk := 1) (E1 := (pS K)) (E2 := pInt) k_l_stream (hr.mono (by decide)) g_l_stream F_l_stream.kp b_l_stream (x_var (p := (pS K) a1) 0) (fun _ => x_int (i := 0)))) fun (b483 : ((Unit × Unit) × (List Int))) x482 v485 => s_T (T := (M_l_next x482 (4 : Int)).bind fun r486 => (M_l_pool (r486.2) ((2 : Int) + (r486.1))).bind fun r487 => (some (r487.1 : List Int)).bind fun x488 => (M_l_next (r487.2) (7 : Int)).bind fun r490 => (some (r490.1 : Int)).bind fun x491 => (M_l_names (r490.2) (x491 + (2 : Int))).bind fun r493 => (some (r493.1 : List Str)).bind fun x494 => (M_l_domains (r493.2) (cutL x494 none (some x491)) x488 (4 : Int)).bind fun r496 => (some (r496.1 : List (Str × List Int))).bind fun x497 => ((if (decide ((0 : Int) < x491)) = true then (M_l_next (r496.2) (5 : Int)).bind fun r502 => some ((decide ((r502.1) = (0 : Int))), r502.2) else some (false, r496.2))).bind fun c503 => (if c503.1 = true then (M_l_next (c503.2) x491).bind fun r530 => (some (r530.1 : Int)).bind fun x531 => (atI x497 x531).bind fun x533 => (ixN x497.length x531).bind fun (_ : Nat) => some ((x497.set ((ixN x497.length x531).getD 0) (x533.1, [])), r530.2) else some (x497, c503.2)).bind fun s505 => (M_l_stream a1 (1 : Int)).bind fun r506 => (some (r506 : List Int)).bind fun x507 => (some (([] : List (Str × List Int)) : List (Str × List Int))).bind fun x512 => (M_l_listed x507 (cutL x494 none (some x491))).bind fun r516 => (forS (r516.1) ((x512, r516.2) : (List (Str × List Int)) × (List Int)) fun x519 s518 => (idx? x519 x494).bind fun n526 => (atI (s505.1) (n526 : Int)).bind fun x527 => (M_l_drawn_side (s518.2) (x527.2) x488).bind fun r528 => grd ((s518.1).length < sizeLine) (some ((dput (s518.1) x519 (r528.1)), r528.2))).bind fun s520 => (M_l_formed (s520.1) (s505.1)).bind fun r521 => if (!r521) = true then some false else (M_l_next (s520.2) (3 : Int)).bind fun r523 => if (decide ((0 : Int) < (r523.1))) = true then some true else (M_l_refused (r523.2) (s520.1) (s505.1) (cutL x494 (some x491) none) x488).bind fun r525 => some (r525.1)) (s_let (i := 2) (pL pInt) sc_law.nd (x_kd (E := fun (b_ : ((Unit × (Unit × ((Unit × Unit) × (Int × (List Int))))) × ((List Int) × (List Int)))) => (pL pInt) b_.2.1) (x_frz (o_kd (E := fun (b_ : ((Unit × (Unit × ((Unit × Unit) × (Int × (List Int))))) × ((List Int) × (List Int)))) => (oL pInt) b_.2.1) (x_OF_o (kk := 2) (E1 := (oL pInt)) (E2 := pInt) (v1 := v485) k_l_pool (hr.mono (by decide)) g_l_pool F_l_pool.kp b_l_pool 0 (x_var (p := pV v485) 1) (fun _ => x_kd (E := fun (b_ : (Unit × ((Unit × Unit) × (Int × (List Int))))) => pInt ((2 : Int) + (b_.2.2.1))) (x_add (x_int (i := 2)) (fun _ => x_kd (E := fun (b_ : ((Unit × Unit) × (Int × (List Int)))) => pInt b_.2.1) (x_OF_f (kk := 1) (E1 := (oL pInt)) (E2 := pInt) (s1 := fun (_ : Unit) (_ : Unit) => x482) (v1 := v485) k_l_next (hr.mono (by decide)) g_l_next F_l_next.kp b_l_next 0 (x_var (p := pV v485) 1) (fun _ => x_int (i := 4)) (fun _ _ => rfl))))) (fun _ _ => rfl))))) fun (b489 : ((Unit × (Unit × ((Unit × Unit) × (Int × (List Int))))) × ((List Int) × (List Int)))) x488 => s_T (T := (M_l_next (b489.2.2) (7 : Int)).bind fun r490 => (some (r490.1 : Int)).bind fun x491 => (M_l_names (r490.2) (x491 + (2 : Int))).bind fun r493 => (some (r493.1 : List Str)).bind fun x494 => (M_l_domains (r493.2) (cutL x494 none (some x491)) x488 (4 : Int)).bind fun r496 => (some (r496.1 : List (Str × List Int))).bind fun x497 => ((if (decide ((0 : Int) < x491)) = true then (M_l_next (r496.2) (5 : Int)).bind fun r502 => some ((decide ((r502.1) = (0 : Int))), r502.2) else some (false, r496.2))).bind fun c503 => (if c503.1 = true then (M_l_next (c503.2) x491).bind fun r530 => (some (r530.1 : Int)).bind fun x531 => (atI x497 x531).bind fun x533 => (ixN x497.length x531).bind fun (_ : Nat) => some ((x497.set ((ixN x497.length x531).getD 0) (x533.1, [])), r530.2) else some (x497, c503.2)).bind fun s505 => (M_l_stream a1 (1 : Int)).bind fun r506 => (some (r506 : List Int)).bind fun x507 => (some (([] : List (Str × List Int)) : List (Str × List Int))).bind fun x512 => (M_l_listed x507 (cutL x494 none (some x491))).bind fun r516 => (forS (r516.1) ((x512, r516.2) : (List (Str × List Int)) × (List Int)) fun x519 s518 => (idx? x519 x494).bind fun n526 => (atI (s505.1) (n526 : Int)).bind fun x527 => (M_l_drawn_side (s518.2) (x527.2) x488).bind fun r528 => grd ((s518.1).length < sizeLine) (some ((dput (s518.1) x519 (r528.1)), r528.2))).bind fun s520 => (M_l_formed (s520.1) (s505.1)).bind fun r521 => if (!r521) = true then some false else (M_l_next (s520.2) (3 : Int)).bind fun r523 => if (decide ((0 : Int) < (r523.1))) = true then some true else (M_l_refused (r523.2) (s520.1) (s505.1) (cutL x494 (some x491) none) x488).bind fun r525 => some (r525.1)) (s_let (i := 3) pInt sc_law.nd (x_kd (E := fun (b_ : ((Unit × Unit) × (Int × (List Int)))) => pInt b_.2.1) (x_OF_f (kk := 1) (E1 := (oL pInt)) (E2 := pInt) (s1 := fun (_ : Unit) (_ : Unit) => b489.2.2) (v1 := v485) k_l_next (hr.mono (by decide)) g_l_next F_l_next.kp b_l_next 0 (x_var (p := pV v485) 1) (fun _ => x_int (i := 7)) (fun _ _ => rfl))) fun (b492 : ((Unit × Unit) × (Int × (List Int)))) x491 => s_T (T := (M_l_names (b492.2.2) (x491 + (2 : Int))).bind fun r493 => (some (r493.1 : List Str)).bind fun x494 => (M_l_domains (r493.2) (cutL x494 none (some x491)) x488 (4 : Int)).bind fun r496 => (some (r496.1 : List (Str × List Int))).bind fun x497 => ((if (decide ((0 : Int) < x491)) = true then (M_l_next (r496.2) (5 : Int)).bind fun r502 => some ((decide ((r502.1) = (0 : Int))), r502.2) else some (false, r496.2))).bind fun c503 => (if c503.1 = true then (M_l_next (c503.2) x491).bind fun r530 => (some (r530.1 : Int)).bind fun x531 => (atI x497 x531).bind fun x533 => (ixN x497.length x531).bind fun (_ : Nat) => some ((x497.set ((ixN x497.length x531).getD 0) (x533.1, [])), r530.2) else some (x497, c503.2)).bind fun s505 => (M_l_stream a1 (1 : Int)).bind fun r506 => (some (r506 : List Int)).bind fun x507 => (some (([] : List (Str × List Int)) : List (Str × List Int))).bind fun x512 => (M_l_listed x507 (cutL x494 none (some x491))).bind fun r516 => (forS (r516.1) ((x512, r516.2) : (List (Str × List Int)) × (List Int)) fun x519 s518 => (idx? x519 x494).bind fun n526 => (atI (s505.1) (n526 : Int)).bind fun x527 => (M_l_drawn_side (s518.2) (x527.2) x488).bind fun r528 => grd ((s518.1).length < sizeLine) (some ((dput (s518.1) x519 (r528.1)), r528.2))).bind fun s520 => (M_l_formed (s520.1) (s505.1)).bind fun r521 => if (!r521) = true then some false else (M_l_next (s520.2) (3 : Int)).bind fun r523 => if (decide ((0 : Int) < (r523.1))) = true then some true else (M_l_refused (r523.2) (s520.1) (s505.1) (cutL x494 (some x491) none) x488).bind fun r525 => some (r525.1)) (s_let (i := 4) (pL pStr) sc_law.nd (x_kd (E := fun (b_ : ((Unit × (Unit × Unit)) × ((List Str) × (List Int)))) => (pL pStr) b_.2.1) (x_OF_f (kk := 2) (E1 := (oL pInt)) (E2 := pInt) (s1 := fun (_ : Unit) (_ : (Unit × Unit)) => b492.2.2) (v1 := v485) k_l_names (hr.mono (by decide)) g_l_names F_l_names.kp b_l_names 0 (x_var (p := pV v485) 1) (fun _ => x_kd (E := fun (b_ : (Unit × Unit)) => pInt (x491 + (2 : Int))) (x_add (x_var (p := pInt x491) 3) (fun _ => x_int (i := 2)))) (fun _ _ => rfl))) fun (b495 : ((Unit × (Unit × Unit)) × ((List Str) × (List Int)))) x494 => s_T (T := (M_l_domains (b495.2.2) (cutL x494 none (some x491)) x488 (4 : Int)).bind fun r496 => (some (r496.1 : List (Str × List Int))).bind fun x497 => ((if (decide ((0 : Int) < x491)) = true then (M_l_next (r496.2) (5 : Int)).bind fun r502 => some ((decide ((r502.1) = (0 : Int))), r502.2) else some (false, r496.2))).bind fun c503 => (if c503.1 = true then (M_l_next (c503.2) x491).bind fun r530 => (some (r530.1 : Int)).bind fun x531 => (atI x497 x531).bind fun x533 => (ixN x497.length x531).bind fun (_ : Nat) => some ((x497.set ((ixN x497.length x531).getD 0) (x533.1, [])), r530.2) else some (x497, c503.2)).bind fun s505 => (M_l_stream a1 (1 : Int)).bind fun r506 => (some (r506 : List Int)).bind fun x507 => (some (([] : List (Str × List Int)) : List (Str × List Int))).bind fun x512 => (M_l_listed x507 (cutL x494 none (some x491))).bind fun r516 => (forS (r516.1) ((x512, r516.2) : (List (Str × List Int)) × (List Int)) fun x519 s518 => (idx? x519 x494).bind fun n526 => (atI (s505.1) (n526 : Int)).bind fun x527 => (M_l_drawn_side (s518.2) (x527.2) x488).bind fun r528 => grd ((s518.1).length < sizeLine) (some ((dput (s518.1) x519 (r528.1)), r528.2))).bind fun s520 => (M_l_formed (s520.1) (s505.1)).bind fun r521 => if (!r521) = true then some false else (M_l_next (s520.2) (3 : Int)).bind fun r523 => if (decide ((0 : Int) < (r523.1))) = true then some true else (M_l_refused (r523.2) (s520.1) (s505.1) (cutL x494 (some x491) none) x488).bind fun r525 => some (r525.1)) (s_letO (i := 5) (oL (pT2 pStr (pL pInt))) sc_law.nd (o_kd (E := fun (b_ : ((Unit × ((Unit × (Unit × Unit)) × (Unit × Unit))) × ((List (Str × List Int)) × (List Int)))) => (oL (pT2 pStr (pL pInt))) b_.2.1) (x_OFFF_o (kk := 2) (E1 := (oL pInt)) (E2 := (pL pStr)) (E3 := (pL pInt)) (E4 := pInt) (s1 := fun (_ : Unit) (_ : (Unit × (Unit × Unit))) (_ : Unit) (_ : Unit) => b495.2.2) (v1 := v485) k_l_domains (hr.mono (by decide)) g_l_domains F_l_domains.kp b_l_domains 0 (x_var (p := pV v485) 1) (fun _ => x_kd (E := fun (b_ : (Unit × (Unit × Unit))) => (pL pStr) (cutL x494 none (some x491))) (x_frz (o_kd (E := fun (b_ : (Unit × (Unit × Unit))) => (oL pStr) (cutL x494 none (some x491))) (x_slL (Ee := pStr) (x_var (p := (pL pStr) x494) 4) (fun _ => p_none) (fun _ _ => p_some (i := fun (b_ : Unit) => x491) (x_var (p := pInt x491) 3)) (fun _ _ _ => rdF))))) (fun _ _ => x_var (p := (pL pInt) x488) 2) (fun _ _ _ => x_int (i := 4)) (fun _ _ _ _ => rfl))) fun (b498 : ((Unit × ((Unit × (Unit × Unit)) × (Unit × Unit))) × ((List (Str × List Int)) × (List Int)))) x497 v500 => s_T (T := ((if (decide ((0 : Int) < x491)) = true then (M_l_next (b498.2.2) (5 : Int)).bind fun r502 => some ((decide ((r502.1) = (0 : Int))), r502.2) else some (false, b498.2.2))).bind fun c503 => (if c503.1 = true then (M_l_next (c503.2) x491).bind fun r530 => (some (r530.1 : Int)).bind fun x531 => (atI x497 x531).bind fun x533 => (ixN x497.length x531).bind fun (_ : Nat) => some ((x497.set ((ixN x497.length x531).getD 0) (x533.1, [])), r530.2) else some (x497, c503.2)).bind fun s505 => (M_l_stream a1 (1 : Int)).bind fun r506 => (some (r506 : List Int)).bind fun x507 => (some (([] : List (Str × List Int)) : List (Str × List Int))).bind fun x512 => (M_l_listed x507 (cutL x494 none (some x491))).bind fun r516 => (forS (r516.1) ((x512, r516.2) : (List (Str × List Int)) × (List Int)) fun x519 s518 => (idx? x519 x494).bind fun n526 => (atI (s505.1) (n526 : Int)).bind fun x527 => (M_l_drawn_side (s518.2) (x527.2) x488).bind fun r528 => grd ((s518.1).length < sizeLine) (some ((dput (s518.1) x519 (r528.1)), r528.2))).bind fun s520 => (M_l_formed (s520.1) (s505.1)).bind fun r521 => if (!r521) = true then some false else (M_l_next (s520.2) (3 : Int)).bind fun r523 => if (decide ((0 : Int) < (r523.1))) = true then some true else (M_l_refused (r523.2) (s520.1) (s505.1) (cutL x494 (some x491) none) x488).bind fun r525 => some (r525.1)) (s_ifN (C := fun s_ : (List (Str × List Int)) × (List Int) => ([some ((pS K) a1), some (pV v485), some ((pL pInt) x488), some (pInt x491), some ((pL pStr) x494), some (pV v500), none, none, none], [⟨v500, (oL (pT2 pStr (pL pInt))) s_.1, none⟩, ⟨v485, (oL pInt) s_.2, none⟩])) (t_kd (c := fun (b_ : ((Unit × Unit) × (Bool × (List Int)))) => b_.2.1) (PW.pt (w_andM (ΔS := fun (b_ : (Unit × Unit)) (s_ : (List Int)) => [⟨v500, (oL (pT2 pStr (pL pInt))) x497, none⟩, ⟨v485, (oL pInt) s_, none⟩]) (s1 := fun (b_ : (Unit × Unit)) => b498.2.2) (s2 := fun (b_ : (Unit × Unit)) (c_ : (((Unit × Unit) × (Int × (List Int))) × Unit)) => c_.1.2.2) (t_kd (c := fun (b_ : (Unit × Unit)) => (decide ((0 : Int) < x491))) (t_gt (x_var (p := pInt x491) 3) (fun _ => x_int (i := 0)))) (fun _ => w_and1 (t_kd (c := fun (b_ : (((Unit × Unit) × (Int × (List Int))) × Unit)) => (decide ((b_.1.2.1) = (0 : Int)))) (t_eqI (x_kd (E := fun (b_ : ((Unit × Unit) × (Int × (List Int)))) => pInt b_.2.1) (x_OF_f (kk := 1) (E1 := (oL pInt)) (E2 := pInt) (s1 := fun (_ : Unit) (_ : Unit) => b498.2.2) (v1 := v485) k_l_next (hr.mono (by decide)) g_l_next F_l_next.kp b_l_next 1 (x_var (p := pV v485) 1) (fun _ => x_int (i := 5)) (fun _ _ => rfl))) (fun _ => x_int (i := 0))))) (fun _ => rfl) (fun _ _ => rfl)))) (fun (b504 : ((Unit × Unit) × (Bool × (List Int)))) => s_T (T := (M_l_next (b504.2.2) x491).bind fun r530 => (some (r530.1 : Int)).bind fun x531 => (atI x497 x531).bind fun x533 => (ixN x497.length x531).bind fun (_ : Nat) => some ((x497.set ((ixN x497.length x531).getD 0) (x533.1, [])), r530.2)) (s_let (i := 8) pInt sc_law.nd (x_kd (E := fun (b_ : ((Unit × Unit) × (Int × (List Int)))) => pInt b_.2.1) (x_OF_f (kk := 1) (E1 := (oL pInt)) (E2 := pInt) (s1 := fun (_ : Unit) (_ : Unit) => b504.2.2) (v1 := v485) k_l_next (hr.mono (by decide)) g_l_next F_l_next.kp b_l_next 1 (x_var (p := pV v485) 1) (fun _ => x_var (p := pInt x491) 3) (fun _ _ => rfl))) fun (b532 : ((Unit × Unit) × (Int × (List Int)))) x531 => s_T (T := (atI x497 x531).bind fun x533 => (ixN x497.length x531).bind fun (_ : Nat) => some ((x497.set ((ixN x497.length x531).getD 0) (x533.1, [])), b532.2.2)) (s_setL 0 (x_kd (E := fun (b_ : (((Unit × Unit) × (Str × List Int)) × (Unit × Unit))) => (pT2 pStr (pL pInt)) (b_.1.2.1, [])) (x_tup2 (a_cons (x_kd (E := fun (b_ : ((Unit × Unit) × (Str × List Int))) => pStr b_.2.1) (x_fst (x_kd (E := fun (b_ : ((Unit × Unit) × (Str × List Int))) => (pT2 pStr (pL pInt)) b_.2) (x_ixL (Ee := (pT2 pStr (pL pInt))) (x_var (p := pV v500) 5) (fun _ => x_var (p := pInt x531) 8) (fun _ _ => rdO 0))))) (fun _ => a_cons (x_kd (E := fun (b_ : Unit) => (pL pInt) ([])) (x_frz (o_kd (E := fun (b_ : Unit) => (oL pInt) ([])) (x_nil pInt)))) (fun _ => a_nil))) pStr (pL pInt) (fun (b : (((Unit × Unit) × (Str × List Int)) × (Unit × Unit))) => b.1.2.1) (fun (b : (((Unit × Unit) × (Str × List Int)) × (Unit × Unit))) => []))) (fun _ => x_var (p := pV v500) 5) (fun _ _ => x_var (p := pInt x531) 8) (fun _ _ _ => rfl) fun (b534 : (((((Unit × Unit) × (Str × List Int)) × (Unit × Unit)) × Unit) × Unit)) => s_end ((x497.set ((ixN x497.length x531).getD 0) (b534.1.1.1.2.1, [])), b532.2.2) rfl ⟨rfl, rfl, rfl, rfl, rfl, rfl, trivial⟩ (List.Sublist.refl _)))) (fun (b504 : ((Unit × Unit) × (Bool × (List Int)))) => s_end (x497, b504.2.2) rfl ⟨rfl, rfl, rfl, rfl, rfl, rfl, trivial⟩ (List.Sublist.refl _)) fun (b504 : ((Unit × Unit) × (Bool × (List Int)))) s505 => s_frz (i := 5) (c := ⟨v500, (oL (pT2 pStr (pL pInt))) s505.1, none⟩) 0 (s_T (T := (M_l_stream a1 (1 : Int)).bind fun r506 => (some (r506 : List Int)).bind fun x507 => (some (([] : List (Str × List Int)) : List (Str × List Int))).bind fun x512 => (M_l_listed x507 (cutL x494 none (some x491))).bind fun r516 => (forS (r516.1) ((x512, r516.2) : (List (Str × List Int)) × (List Int)) fun x519 s518 => (idx? x519 x494).bind fun n526 => (atI (s505.1) (n526 : Int)).bind fun x527 => (M_l_drawn_side (s518.2) (x527.2) x488).bind fun r528 => grd ((s518.1).length < sizeLine) (some ((dput (s518.1) x519 (r528.1)), r528.2))).bind fun s520 => (M_l_formed (s520.1) (s505.1)).bind fun r521 => if (!r521) = true then some false else (M_l_next (s520.2) (3 : Int)).bind fun r523 => if (decide ((0 : Int) < (r523.1))) = true then some true else (M_l_refused (r523.2) (s520.1) (s505.1) (cutL x494 (some x491) none) x488).bind fun r525 => some (r525.1)) (s_letO (i := 1) (oL pInt) sc_law.nd (o_kd (E := fun (b_ : ((Unit × Unit) × (List Int))) => (oL pInt) b_.2) (x_FF_o (kk := 1) (E1 := (pS K)) (E2 := pInt) k_l_stream (hr.mono (by decide)) g_l_stream F_l_stream.kp b_l_stream (x_var (p := (pS K) a1) 0) (fun _ => x_int (i := 1)))) fun (b508 : ((Unit × Unit) × (List Int))) x507 v510 => s_T (T := (some (([] : List (Str × List Int)) : List (Str × List Int))).bind fun x512 => (M_l_listed x507 (cutL x494 none (some x491))).bind fun r516 => (forS (r516.1) ((x512, r516.2) : (List (Str × List Int)) × (List Int)) fun x519 s518 => (idx? x519 x494).bind fun n526 => (atI (s505.1) (n526 : Int)).bind fun x527 => (M_l_drawn_side (s518.2) (x527.2) x488).bind fun r528 => grd ((s518.1).length < sizeLine) (some ((dput (s518.1) x519 (r528.1)), r528.2))).bind fun s520 => (M_l_formed (s520.1) (s505.1)).bind fun r521 => if (!r521) = true then some false else (M_l_next (s520.2) (3 : Int)).bind fun r523 => if (decide ((0 : Int) < (r523.1))) = true then some true else (M_l_refused (r523.2) (s520.1) (s505.1) (cutL x494 (some x491) none) x488).bind fun r525 => some (r525.1)) (s_letO (i := 6) (oM (κ := Str) (pL pInt)) sc_law.nd (o_kd (E := fun (b_ : Unit) => (oM (κ := Str) (pL pInt)) ([] : List (Str × List Int))) (x_dict0 (κ := Str) (pL pInt))) fun (b513 : Unit) x512 v515 => s_T (T := (M_l_listed x507 (cutL x494 none (some x491))).bind fun r516 => (forS (r516.1) ((x512, r516.2) : (List (Str × List Int)) × (List Int)) fun x519 s518 => (idx? x519 x494).bind fun n526 => (atI (s505.1) (n526 : Int)).bind fun x527 => (M_l_drawn_side (s518.2) (x527.2) x488).bind fun r528 => grd ((s518.1).length < sizeLine) (some ((dput (s518.1) x519 (r528.1)), r528.2))).bind fun s520 => (M_l_formed (s520.1) (s505.1)).bind fun r521 => if (!r521) = true then some false else (M_l_next (s520.2) (3 : Int)).bind fun r523 => if (decide ((0 : Int) < (r523.1))) = true then some true else (M_l_refused (r523.2) (s520.1) (s505.1) (cutL x494 (some x491) none) x488).bind fun r525 => some (r525.1)) (s_forS PassesOwn.never (fun (b_ : ((Unit × (Unit × (Unit × Unit))) × ((List Str) × (List Int)))) (s_ : (List (Str × List Int)) × (List Int)) => ([some ((pS K) a1), some (pV v510), some ((pL pInt) x488), some (pInt x491), some ((pL pStr) x494), some ((pL (pT2 pStr (pL pInt))) s505.1), some (pV v515), none, none], [⟨v515, (oM (κ := Str) (pL pInt)) s_.1, none⟩, ⟨v510, (oL pInt) s_.2, none⟩, ⟨v485, (oL pInt) s505.2, none⟩])) (fun (b_ : ((Unit × (Unit × (Unit × Unit))) × ((List Str) × (List Int)))) => (x512, b_.2.2)) (i_list (x_kd (E := fun (b_ : ((Unit × (Unit × (Unit × Unit))) × ((List Str) × (List Int)))) => (pL pStr) b_.2.1) (x_OF_f (kk := 2) (E1 := (oL pInt)) (E2 := (pL pStr)) (s1 := fun (_ : Unit) (_ : (Unit × (Unit × Unit))) => x507) (v1 := v510) k_l_listed (hr.mono (by decide)) g_l_listed F_l_listed.kp b_l_listed 1 (x_var (p := pV v510) 1) (fun _ => x_kd (E := fun (b_ : (Unit × (Unit × Unit))) => (pL pStr) (cutL x494 none (some x491))) (x_frz (o_kd (E := fun (b_ : (Unit × (Unit × Unit))) => (oL pStr) (cutL x494 none (some x491))) (x_slL (Ee := pStr) (x_var (p := (pL pStr) x494) 4) (fun _ => p_none) (fun _ _ => p_some (i := fun (b_ : Unit) => x491) (x_var (p := pInt x491) 3)) (fun _ _ _ => rdF))))) (fun _ _ => rfl)))) (pg_name (i := 7) sc_law.nd rfl (by first | exact .inl rfl | exact .inr rfl)) (tg_name 7) (fun _ => ⟨rfl, rfl, rfl, rfl, rfl, rfl, rfl, trivial⟩) (fun _ => List.Sublist.refl _) (fun b517 x519 s518 => s_T (T := (idx? x519 x494).bind fun n526 => (atI (s505.1) (n526 : Int)).bind fun x527 => (M_l_drawn_side (s518.2) (x527.2) x488).bind fun r528 => grd ((s518.1).length < sizeLine) (some ((dput (s518.1) x519 (r528.1)), r528.2))) (s_dput (κ := Str) (Ee := (pL pInt)) 0 hr.units (x_kd (E := fun (b_ : ((Unit × (((Unit × ((Unit × Unit) × Nat)) × (Str × List Int)) × Unit)) × ((List Int) × (List Int)))) => (pL pInt) b_.2.1) (x_frz (o_kd (E := fun (b_ : ((Unit × (((Unit × ((Unit × Unit) × Nat)) × (Str × List Int)) × Unit)) × ((List Int) × (List Int)))) => (oL pInt) b_.2.1) (x_OFF_o (kk := 2) (E1 := (oL pInt)) (E2 := (pL pInt)) (E3 := (pL pInt)) (s1 := fun (_ : Unit) (_ : ((Unit × ((Unit × Unit) × Nat)) × (Str × List Int))) (_ : Unit) => s518.2) (v1 := v510) k_l_drawn_side (hr.mono (by decide)) g_l_drawn_side F_l_drawn_side.kp b_l_drawn_side 1 (x_var (p := pV v510) 1) (fun _ => x_kd (E := fun (b_ : ((Unit × ((Unit × Unit) × Nat)) × (Str × List Int))) => (pL pInt) b_.2.2) (x_snd (x_kd (E := fun (b_ : ((Unit × ((Unit × Unit) × Nat)) × (Str × List Int))) => (pT2 pStr (pL pInt)) b_.2) (x_ixL (Ee := (pT2 pStr (pL pInt))) (x_var (p := (pL (pT2 pStr (pL pInt))) s505.1) 5) (fun _ => x_kd (E := fun (b_ : ((Unit × Unit) × Nat)) => pInt (b_.2 : Int)) (x_index flStr (x_var (p := (pL pStr) x494) 4) (fun _ => x_var (p := pStr x519) 7) (fun _ => rdF) (fun _ _ => rdF))) (fun _ _ => rdF))))) (fun _ _ => x_var (p := (pL pInt) x488) 2) (fun _ _ _ => rfl))))) (fun _ => x_var (p := pV v515) 6) (fun _ _ => x_var (p := pStr x519) 7) (fun _ _ _ => rfl) fun (b529 : ((((Unit × (((Unit × ((Unit × Unit) × Nat)) × (Str × List Int)) × Unit)) × ((List Int) × (List Int))) × Unit) × Unit)) => s_end ((dput (s518.1) x519 (b529.1.1.2.1)), b529.1.1.2.2) rfl ⟨rfl, rfl, rfl, rfl, rfl, rfl, rfl, trivial⟩ (List.Sublist.refl _))) fun b517 s520 => s_frz (i := 6) (c := ⟨v515, (oM (κ := Str) (pL pInt)) s520.1, none⟩) 0 (s_T (T := (M_l_formed (s520.1) (s505.1)).bind fun r521 => if (!r521) = true then some false else (M_l_next (s520.2) (3 : Int)).bind fun r523 => if (decide ((0 : Int) < (r523.1))) = true then some true else (M_l_refused (r523.2) (s520.1) (s505.1) (cutL x494 (some x491) none) x488).bind fun r525 => some (r525.1)) (s_ifT (ins_F _) (t_kd (c := fun (b_ : ((Unit × Unit) × Bool)) => (!b_.2)) (t_not (t_kd (c := fun (b_ : ((Unit × Unit) × Bool)) => b_.2) (t_val (x_kd (E := fun (b_ : ((Unit × Unit) × Bool)) => pBl b_.2) (x_FF_f (kk := 4) (E1 := (pM (κ := Str) (pL pInt))) (E2 := (pL (pT2 pStr (pL pInt)))) k_l_formed (hr.mono (by decide)) g_l_formed F_l_formed.kp b_l_formed (x_var (p := (pM (κ := Str) (pL pInt)) s520.1) 6) (fun _ => x_var (p := (pL (pT2 pStr (pL pInt))) s505.1) 5))))))) (fun (b522 : ((Unit × Unit) × Bool)) => s_T (T := some false) (s_ret (P := (fun _ => [])) (Rp := pBl) (ι := id) (rv := fun (b : Unit) => false) (fun _ _ _ h => h) x_bl (fun _ => .cons _ (.cons _ (.slnil))))) fun (b522 : ((Unit × Unit) × Bool)) => s_T (T := (M_l_next (s520.2) (3 : Int)).bind fun r523 => if (decide ((0 : Int) < (r523.1))) = true then some true else (M_l_refused (r523.2) (s520.1) (s505.1) (cutL x494 (some x491) none) x488).bind fun r525 => some (r525.1)) (s_ifT (ins_F _) (t_kd (c := fun (b_ : (((Unit × Unit) × (Int × (List Int))) × Unit)) => (decide ((0 : Int) < (b_.1.2.1)))) (t_gt (x_kd (E := fun (b_ : ((Unit × Unit) × (Int × (List Int)))) => pInt b_.2.1) (x_OF_f (kk := 1) (E1 := (oL pInt)) (E2 := pInt) (s1 := fun (_ : Unit) (_ : Unit) => s520.2) (v1 := v510) k_l_next (hr.mono (by decide)) g_l_next F_l_next.kp b_l_next 0 (x_var (p := pV v510) 1) (fun _ => x_int (i := 3)) (fun _ _ => rfl))) (fun _ => x_int (i := 0)))) (fun (b524 : (((Unit × Unit) × (Int × (List Int))) × Unit)) => s_T (T := some true) (s_ret (P := (fun _ => [])) (Rp := pBl) (ι := id) (rv := fun (b : Unit) => true) (fun _ _ _ h => h) x_bl (fun _ => .cons _ (.cons _ (.slnil))))) fun (b524 : (((Unit × Unit) × (Int × (List Int))) × Unit)) => s_T (T := (M_l_refused (b524.1.2.2) (s520.1) (s505.1) (cutL x494 (some x491) none) x488).bind fun r525 => some (r525.1)) (s_ret (P := (fun _ => [])) (Rp := pBl) (ι := id) (rv := fun (b : ((Unit × (Unit × (Unit × ((Unit × (Unit × Unit)) × Unit)))) × (Bool × (List Int)))) => b.2.1) (fun _ _ _ h => h) (x_kd (x_kd (E := fun (b_ : ((Unit × (Unit × (Unit × ((Unit × (Unit × Unit)) × Unit)))) × (Bool × (List Int)))) => pBl b_.2.1) (x_OFFFF_f (kk := 5) (E1 := (oL pInt)) (E2 := (pM (κ := Str) (pL pInt))) (E3 := (pL (pT2 pStr (pL pInt)))) (E4 := (pL pStr)) (E5 := (pL pInt)) (s1 := fun (_ : Unit) (_ : Unit) (_ : Unit) (_ : (Unit × (Unit × Unit))) (_ : Unit) => b524.1.2.2) (v1 := v510) k_l_refused (hr.mono (by decide)) g_l_refused F_l_refused.kp b_l_refused 0 (x_var (p := pV v510) 1) (fun _ => x_var (p := (pM (κ := Str) (pL pInt)) s520.1) 6) (fun _ _ => x_var (p := (pL (pT2 pStr (pL pInt))) s505.1) 5) (fun _ _ _ => x_kd (E := fun (b_ : (Unit × (Unit × Unit))) => (pL pStr) (cutL x494 (some x491) none)) (x_frz (o_kd (E := fun (b_ : (Unit × (Unit × Unit))) => (oL pStr) (cutL x494 (some x491) none)) (x_slL (Ee := pStr) (x_var (p := (pL pStr) x494) 4) (fun _ => p_some (i := fun (b_ : Unit) => x491) (x_var (p := pInt x491) 3)) (fun _ _ => p_none) (fun _ _ _ => rdF))))) (fun _ _ _ _ => x_var (p := (pL pInt) x488) 2) (fun _ _ _ _ _ => rfl)))) (fun _ => .cons _ (.cons _ (.slnil)))))))))))))))))) (by unfold M_law; rfl)
end
end My
end
section
namespace My
open PySem PySem.Spec PyProof.Rows L2 L3
def Wp {α : Type} (m : Option α) (Q : α → Prop) : Prop := ∃ a, m = some a ∧ Q a
section
variable {α β γ S ρ δ : Type}
theorem wp_some {a : α} {Q : α → Prop} (h : Q a) : Wp (some a) Q := ⟨a, rfl, h⟩
theorem wp_bind {m : Option α} {k : α → Option β} {Q : β → Prop} (h : Wp m fun a => Wp (k a) Q) : Wp (m.bind k) Q := by
  obtain ⟨a, e, b, e2, q⟩ := h
  exact ⟨b, by rw [e]; exact e2, q⟩
theorem wp_mono {m : Option α} {Q R : α → Prop} (h : Wp m Q) (f : ∀ a, Q a → R a) : Wp m R := by
  obtain ⟨a, e, q⟩ := h
  exact ⟨a, e, f a q⟩
theorem wp_then {m : Option α} {k : α → Option β} {P : α → Prop} {Q : β → Prop} (h : Wp m P) (f : ∀ a, P a → Wp (k a) Q) : Wp (m.bind k) Q := wp_bind (wp_mono h f)
theorem wp_eq {m : Option α} {k : α → Option β} {a : α} {Q : β → Prop} (h : m = some a) (f : Wp (k a) Q) : Wp (m.bind k) Q := wp_bind ⟨a, h, f⟩
theorem wp_grd {c : Prop} [Decidable c] {m : Option α} {Q : α → Prop} (h : c) (f : Wp m Q) : Wp (grd c m) Q := by
  unfold grd
  rw [if_pos h]
  exact f
theorem wp_ite {c : Prop} [Decidable c] {m n : Option α} {Q : α → Prop} (h : c → Wp m Q) (f : ¬ c → Wp n Q) : Wp (if c then m else n) Q := by
  by_cases x : c
  · rw [if_pos x]; exact h x
  · rw [if_neg x]; exact f x
theorem wp_is {m : Option α} {a : α} (h : Wp m fun x => x = a) : m = some a := by
  obtain ⟨b, e, q⟩ := h
  rw [e, q]
theorem gp {γ : Type} {c : Prop} [Decidable c] {x : Option γ} (h : c) : grd c x = x := if_pos h
theorem wp_forS {f : α → S → Option S} {Q : S → Prop} (I : List α → S → Prop) : ∀ {xs : List α} {pre : List α} {s : S}, I pre s → (∀ p x t s, pre ++ xs = p ++ x :: t → I p s → Wp (f x s) (I (p ++ [x]))) → (∀ s, I (pre ++ xs) s → Q s) → Wp (forS xs s f) Q
  | [], pre, s, h0, _, hq => ⟨s, rfl, hq s (by simpa using h0)⟩
  | x :: xs, pre, s, h0, hs, hq => by
    obtain ⟨s1, e1, i1⟩ := hs pre x xs s rfl h0
    have ih := wp_forS (f := f) (Q := Q) I (xs := xs) (pre := pre ++ [x]) (s := s1) i1 (fun p y t s e => hs p y t s (by rw [← e]; simp)) (fun s hi => hq s (by simpa using hi))
    show Wp ((f x s).bind fun s' => forS xs s' f) Q
    exact wp_eq e1 ih
theorem wp_for {f : α → S → Option S} {Q : S → Prop} {xs : List α} {s : S} (I : List α → S → Prop) (h0 : I [] s) (hs : ∀ p x t s, xs = p ++ x :: t → I p s → Wp (f x s) (I (p ++ [x]))) (hq : ∀ s, I xs s → Q s) : Wp (forS xs s f) Q :=
  wp_forS (pre := []) I h0 (fun p x t s e => hs p x t s e) (fun s h => hq s h)
theorem wp_forLG {f : α → S → Option (Bo S (Tm S ρ))} {Q : Bo S ρ → Prop} (I : List α → S → Prop) : ∀ {xs : List α} {pre : List α} {s : S}, I pre s →
    (∀ p x t s, pre ++ xs = p ++ x :: t → I p s → Wp (f x s) fun o => match o with | .nx s' => I (p ++ [x]) s' | .tm (.ct s') => I (p ++ [x]) s' | .tm (.bk s') => Q (.nx s') | .tm (.rt r) => Q (.tm r)) → (∀ s, I (pre ++ xs) s → Q (.nx s)) → Wp (forL xs s f) Q
  | [], pre, s, h0, _, hq => ⟨.nx s, rfl, hq s (by simpa using h0)⟩
  | x :: xs, pre, s, h0, hs, hq => by
    obtain ⟨o, e1, i1⟩ := hs pre x xs s rfl h0
    have go : ∀ s1, I (pre ++ [x]) s1 → Wp (forL xs s1 f) Q := fun s1 i1 => wp_forLG I (xs := xs) (pre := pre ++ [x]) (s := s1) i1 (fun p y t s e => hs p y t s (by rw [← e]; simp)) (fun s hi => hq s (by simpa using hi))
    show Wp ((f x s).bind _) Q
    refine wp_eq e1 ?_
    match o, i1 with
    | .nx s', i1 => exact go s' i1
    | .tm (.ct s'), i1 => exact go s' i1
    | .tm (.bk s'), i1 => exact ⟨_, rfl, i1⟩
    | .tm (.rt r), i1 => exact ⟨_, rfl, i1⟩
theorem wp_forL {f : α → S → Option (Bo S (Tm S ρ))} {Q : Bo S ρ → Prop} {xs : List α} {s : S} (I : List α → S → Prop) (h0 : I [] s)
    (hs : ∀ p x t s, xs = p ++ x :: t → I p s → Wp (f x s) fun o => match o with | .nx s' => I (p ++ [x]) s' | .tm (.ct s') => I (p ++ [x]) s' | .tm (.bk s') => Q (.nx s') | .tm (.rt r) => Q (.tm r)) (hq : ∀ s, I xs s → Q (.nx s)) : Wp (forL xs s f) Q :=
  wp_forLG (pre := []) I h0 (fun p x t s e => hs p x t s e) (fun s h => hq s h)
theorem compM_pure {f : α → S → Option (Option δ × S)} {g : α → Option δ} {s : S} : ∀ {xs : List α}, (∀ x ∈ xs, f x s = some (g x, s)) → compM xs s f = some (xs.filterMap g, s)
  | [], _ => rfl
  | x :: xs, h => by
    have ih := compM_pure (f := f) (g := g) (s := s) (xs := xs) fun y hy => h y (List.mem_cons_of_mem _ hy)
    unfold compM
    rw [h x List.mem_cons_self]
    simp only [Option.bind_some]
    rw [ih]
    simp only [Option.bind_some, List.filterMap_cons]
    cases g x <;> rfl
theorem filterMap_some {α δ : Type} {g : α → δ} : ∀ xs : List α, xs.filterMap (fun x => some (g x)) = xs.map g
  | [] => rfl
  | x :: xs => by rw [List.filterMap_cons]; simp [filterMap_some xs]
theorem wp_compM {f : α → S → Option (Option δ × S)} {Q : List δ × S → Prop} (I : List α → List δ → S → Prop) : ∀ {xs : List α} {pre : List α} {out : List δ} {s : S}, I pre out s → (∀ p x t o s, pre ++ xs = p ++ x :: t → I p o s → Wp (f x s) fun r => I (p ++ [x]) (o ++ r.1.toList) r.2) → (∀ r : List δ × S, I (pre ++ xs) (out ++ r.1) r.2 → Q r) → Wp (compM xs s f) Q
  | [], pre, out, s, h0, _, hq => ⟨([], s), rfl, hq ([], s) (by simpa using h0)⟩
  | x :: xs, pre, out, s, h0, hs, hq => by
    obtain ⟨⟨o1, s1⟩, e1, i1⟩ := hs pre x xs out s rfl h0
    obtain ⟨r, e2, q2⟩ := wp_compM (f := f) (Q := fun r => Q (o1.toList ++ r.1, r.2)) I (xs := xs) (pre := pre ++ [x]) (out := out ++ o1.toList) (s := s1) i1 (fun p y t o s e => hs p y t o s (by rw [← e]; simp)) (fun r hi => hq (o1.toList ++ r.1, r.2) (by simpa using hi))
    refine ⟨(o1.toList ++ r.1, r.2), ?_, q2⟩
    unfold compM
    rw [e1]
    simp only [Option.bind_some]
    rw [e2]
    cases o1 <;> rfl
end
theorem sz : sizeLine = 16777216 := rfl
theorem sb : scanBound = 4096 := rfl
theorem atI_get {α : Type} {xs : List α} {i : Int} (h0 : 0 ≤ i) (h : i.toNat < xs.length) : atI xs i = some (xs[i.toNat]'h) := by
  unfold atI ixN
  rw [if_pos h0, if_pos (by omega)]
  simp [List.getElem?_eq_getElem h]
theorem wp_at {α : Type} {xs : List α} {i : Int} {Q : α → Prop} (h0 : 0 ≤ i) (h : i < xs.length) (q : ∀ x, x ∈ xs → xs[i.toNat]? = some x → Q x) : Wp (atI xs i) Q :=
  ⟨_, atI_get h0 (by omega), q _ (List.getElem_mem _) (List.getElem?_eq_getElem (by omega))⟩
theorem atI_last {α : Type} {s : List α} {y : α} : atI (s ++ [y]) (-(1 : Int)) = some y := by
  unfold atI ixN
  rw [if_neg (by decide), if_pos (by rw [List.length_append]; simp only [List.length_singleton]; omega)]
  simp only [Option.bind_some]
  rw [List.length_append, List.length_singleton, show ((-1 : Int) + ((s.length + 1 : Nat) : Int)).toNat = s.length by omega]
  simp
theorem rngL_mem {lo : Int} {n : Nat} {x : Int} : x ∈ rngL lo n ↔ lo ≤ x ∧ x < lo + n := by
  unfold rngL
  simp only [List.mem_map, List.mem_range]
  constructor
  · rintro ⟨i, h, rfl⟩; omega
  · intro h; exact ⟨(x - lo).toNat, by omega, by omega⟩
theorem mem_split {α : Type} {xs p t : List α} {x : α} (h : xs = p ++ x :: t) : x ∈ xs := by rw [h]; simp
theorem rngL_split {lo : Int} {n : Nat} {p t : List Int} {x : Int} (h : rngL lo n = p ++ x :: t) : x = lo + p.length ∧ p.length < n := by
  have hl := congrArg List.length h
  rw [rngL_len, List.length_append, List.length_cons] at hl
  have e := congrArg (fun l => l[p.length]?) h
  simp only [List.getElem?_append_right (Nat.le_refl _), Nat.sub_self, List.getElem?_cons_zero] at e
  unfold rngL at e
  rw [List.getElem?_map, List.getElem?_range (by omega)] at e
  simp only [Option.map_some, Option.some.injEq] at e
  exact ⟨e.symm, by omega⟩
theorem sub_len {α : Type} [DecidableEq α] : ∀ {xs ys : List α}, xs.Nodup → (∀ x ∈ xs, x ∈ ys) → xs.length ≤ ys.length
  | [], _, _, _ => Nat.zero_le _
  | x :: xs, ys, nd, h => by
    rw [List.nodup_cons] at nd
    have hx := h x List.mem_cons_self
    have := sub_len (xs := xs) (ys := ys.erase x) nd.2 (fun y hy => (List.mem_erase_of_ne (fun e => nd.1 (by rw [← e]; exact hy))).mpr (h y (List.mem_cons_of_mem _ hy)))
    rw [List.length_erase_of_mem hx] at this
    have := List.length_pos_of_mem hx
    rw [List.length_cons]
    omega
end My
end
section
namespace My
open PySem PySem.Spec PyProof.Rows L2 L3
section
variable {κ α : Type} [DecidableEq κ]
abbrev keys (d : List (κ × α)) : List κ := d.map Prod.fst
theorem dget_nil {k : κ} : dget ([] : List (κ × α)) k = none := rfl
theorem dget_cons {p : κ × α} {d : List (κ × α)} {k : κ} : dget (p :: d) k = if p.1 = k then some p.2 else dget d k := by
  by_cases h : p.1 = k
  · rw [if_pos h, dget_pos h]
  · rw [if_neg h, dget_neg h]
theorem dget_none {k : κ} : ∀ {d : List (κ × α)}, dget d k = none ↔ k ∉ keys d
  | [] => by simp [dget_nil]
  | p :: d => by
    rw [dget_cons]
    show _ ↔ k ∉ p.1 :: keys d
    rw [List.mem_cons]
    by_cases h : p.1 = k
    · rw [if_pos h]; simp [h]
    · rw [if_neg h, dget_none]
      simp only [not_or]
      exact ⟨fun x => ⟨fun e => h e.symm, x⟩, fun x => x.2⟩
theorem dget_some {k : κ} {d : List (κ × α)} (h : k ∈ keys d) : ∃ v, dget d k = some v := by
  cases e : dget d k with
  | none => exact absurd h (dget_none.mp e)
  | some v => exact ⟨v, rfl⟩
theorem dget_mem {k : κ} {v : α} : ∀ {d : List (κ × α)}, dget d k = some v → (k, v) ∈ d
  | [], h => by rw [dget_nil] at h; cases h
  | p :: d, h => by
    rw [dget_cons] at h
    by_cases e : p.1 = k
    · rw [if_pos e] at h; cases h; subst e; exact List.mem_cons_self
    · rw [if_neg e] at h; exact List.mem_cons_of_mem _ (dget_mem h)
theorem mem_dget {k : κ} {v : α} : ∀ {d : List (κ × α)}, (keys d).Nodup → (k, v) ∈ d → dget d k = some v
  | [], _, h => nomatch h
  | p :: d, nd, h => by
    have nd : (p.1 :: keys d).Nodup := nd
    rw [List.nodup_cons] at nd
    rw [dget_cons]
    rcases List.mem_cons.mp h with e | h
    · subst e; rw [if_pos rfl]
    · rw [if_neg (fun e => nd.1 (by rw [e]; exact List.mem_map.mpr ⟨(k, v), h, rfl⟩))]
      exact mem_dget nd.2 h
theorem dhas_iff {k : κ} {d : List (κ × α)} : dhas d k = true ↔ k ∈ keys d := by
  unfold dhas
  rw [List.any_eq_true, List.mem_map]
  simp only [decide_eq_true_eq]
theorem dhas_not {k : κ} {d : List (κ × α)} : dhas d k = false ↔ k ∉ keys d := by
  rw [← dhas_iff]; simp
theorem dput_old {d : List (κ × α)} {k : κ} {v : α} (h : k ∈ keys d) : dput d k v = d.map (fun p => if p.1 = k then (p.1, v) else p) := by
  have := dhas_iff.mpr h
  unfold dhas at this
  unfold dput
  rw [if_pos this]
theorem dput_new {d : List (κ × α)} {k : κ} {v : α} (h : k ∉ keys d) : dput d k v = d ++ [(k, v)] := by
  have := dhas_not.mpr h
  unfold dhas at this
  unfold dput
  rw [if_neg (by rw [this]; decide)]
theorem keys_put_old {d : List (κ × α)} {k : κ} {v : α} (h : k ∈ keys d) : keys (dput d k v) = keys d := by
  rw [dput_old h]
  unfold keys
  rw [List.map_map]
  apply List.map_congr_left
  intro p _
  simp only [Function.comp]
  split <;> rfl
theorem keys_put_new {d : List (κ × α)} {k : κ} {v : α} (h : k ∉ keys d) : keys (dput d k v) = keys d ++ [k] := by
  rw [dput_new h]; unfold keys; rw [List.map_append]; rfl
theorem mem_keys_put {d : List (κ × α)} {k j : κ} {v : α} : j ∈ keys (dput d k v) ↔ j ∈ keys d ∨ j = k := by
  by_cases h : k ∈ keys d
  · rw [keys_put_old h]
    exact ⟨.inl, fun x => x.elim id fun e => by rw [e]; exact h⟩
  · rw [keys_put_new h, List.mem_append, List.mem_singleton]
theorem nodup_put {d : List (κ × α)} {k : κ} {v : α} (nd : (keys d).Nodup) : (keys (dput d k v)).Nodup := by
  by_cases h : k ∈ keys d
  · rw [keys_put_old h]; exact nd
  · rw [keys_put_new h]
    refine List.nodup_append.mpr ⟨nd, List.nodup_cons.mpr ⟨List.not_mem_nil, List.nodup_nil⟩, fun a ha b hb e => h ?_⟩
    rw [List.mem_singleton] at hb
    rw [← hb, ← e]; exact ha
theorem get_map_put {k j : κ} {v : α} : ∀ {d : List (κ × α)}, dget (d.map (fun p => if p.1 = k then (p.1, v) else p)) j = if j = k then (dget d j).map (fun _ => v) else dget d j
  | [] => by simp [dget_nil]
  | p :: d => by
    rw [List.map_cons, dget_cons, dget_cons, get_map_put (d := d)]
    by_cases h : p.1 = k
    · rw [if_pos h]
      by_cases h2 : j = k
      · rw [if_pos h2]; simp [h, h2]
      · rw [if_neg h2]; simp only [h]
        rw [if_neg (fun e => h2 e.symm)]
        rw [if_neg h2, if_neg (fun e => h2 e.symm)]
    · rw [if_neg h]
      by_cases h3 : p.1 = j
      · have h2 : ¬ j = k := fun e => h (by rw [h3, e])
        simp [h3, h2]
      · simp [h3]
theorem get_app {j : κ} {e : List (κ × α)} : ∀ {d : List (κ × α)}, dget (d ++ e) j = (dget d j).orElse fun _ => dget e j
  | [] => rfl
  | p :: d => by
    rw [List.cons_append, dget_cons, dget_cons, get_app (d := d)]
    split <;> rfl
theorem get_put_same {d : List (κ × α)} {k : κ} {v : α} : dget (dput d k v) k = some v := by
  by_cases h : k ∈ keys d
  · rw [dput_old h, get_map_put, if_pos rfl]
    obtain ⟨u, e⟩ := dget_some h
    rw [e]; rfl
  · rw [dput_new h, get_app, dget_none.mpr h]
    show dget [(k, v)] k = _
    rw [dget_cons, if_pos rfl]
theorem get_put_ne {d : List (κ × α)} {k j : κ} {v : α} (hj : j ≠ k) : dget (dput d k v) j = dget d j := by
  by_cases h : k ∈ keys d
  · rw [dput_old h, get_map_put, if_neg hj]
  · rw [dput_new h, get_app]
    cases e : dget d j with
    | some u => rfl
    | none =>
      show dget [(k, v)] j = none
      rw [dget_cons, if_neg (fun e => hj e.symm)]
      rfl
theorem get_put {d : List (κ × α)} {k j : κ} {v : α} : dget (dput d k v) j = if j = k then some v else dget d j := by
  by_cases h : j = k
  · rw [if_pos h, h, get_put_same]
  · rw [if_neg h, get_put_ne h]
theorem deq_self [DecidableEq α] {d : List (κ × α)} (nd : (keys d).Nodup) : deq d d = true := by
  unfold deq
  simp only [beq_self_eq_true, Bool.true_and, List.all_eq_true, decide_eq_true_eq]
  exact fun p hp => mem_dget nd hp
end
end My
end
section
namespace My
open PySem PySem.Spec PyProof.Rows L2 L3
def Stm (s : List Int) : Prop := ∃ a b c, s = [a, b, c]
theorem next_wp {s : List Int} {n : Int} (hs : Stm s) (h0 : 0 < n) (h1 : n < 1073741824) : Wp (M_l_next s n) fun r => 0 ≤ r.1 ∧ r.1 < n ∧ Stm r.2 := by
  obtain ⟨a, b, c, rfl⟩ := hs
  have e0 : atI [a, b, c] (1 : Int) = some b := rfl
  have e1 : ixN [a, b, c].length (1 : Int) = some 1 := rfl
  have hdv : dv n = true := by unfold dv; simp; omega
  unfold M_l_next
  rw [e0, e1]
  simp only [Option.bind_some, Option.getD_some, List.set]
  have e2 : atI [a, b + 1, c] (0 : Int) = some a := rfl
  have e3 : atI [a, b + 1, c] (2 : Int) = some c := rfl
  have e4 : atI [a, b + 1, c] (1 : Int) = some (b + 1) := rfl
  have e5 : ixN [a, b + 1, c].length (0 : Int) = some 0 := rfl
  rw [e2, e3, e4, e5]
  simp only [Option.bind_some, Option.getD_some, List.set]
  by_cases h : 0 < a
  · rw [if_pos (by simpa using h), gp h0, gp hdv]
    exact ⟨_, rfl, Int.emod_nonneg _ (by omega), Int.emod_lt_of_pos _ h0, ⟨_, _, _, rfl⟩⟩
  · rw [if_neg (by simpa using h)]
    rw [gp (by rfl), gp (by decide), gp, gp (by decide), gp, gp (by rfl), gp (by decide), gp (by rfl), gp h0]
    · exact ⟨_, rfl, Int.emod_nonneg _ (by omega), Int.emod_lt_of_pos _ h0, ⟨_, _, _, rfl⟩⟩
    · have := Int.emod_nonneg (((c + 7919 * (b + 1) + 13) % 2147483647) * ((c + 7919 * (b + 1) + 13) % 2147483647 + 48271)) (b := 2147483629) (by decide)
      have := Int.emod_lt_of_pos (((c + 7919 * (b + 1) + 13) % 2147483647) * ((c + 7919 * (b + 1) + 13) % 2147483647 + 48271)) (b := 2147483629) (by decide)
      unfold sm
      simp
      omega
    · have := Int.emod_nonneg (c + 7919 * (b + 1) + 13) (b := 2147483647) (by decide)
      have := Int.emod_lt_of_pos (c + 7919 * (b + 1) + 13) (b := 2147483647) (by decide)
      unfold sm
      simp
      omega
theorem stream_wp {xs : List Int} {k : Int} (hk : 0 ≤ k) : Wp (M_l_stream xs k) Stm := by
  unfold M_l_stream
  simp only [Option.bind_some]
  by_cases h : k < (xs.length : Int)
  · rw [if_pos (by simpa using h), atI_get hk (by omega)]
    simp only [Option.bind_some]
    rw [gp]
    · exact ⟨_, rfl, _, _, _, rfl⟩
    · rw [Bool.or_eq_true]
      right
      split <;> rfl
  · rw [if_neg (by simpa using h)]
    simp only [Option.bind_some]
    rw [gp]
    · exact ⟨_, rfl, _, _, _, rfl⟩
    · rfl
theorem wp_next {β : Type} {s : List Int} {n : Int} {k : Int × List Int → Option β} {Q : β → Prop} (hs : Stm s) (h0 : 0 < n) (h1 : n < 1073741824) (f : ∀ r t, 0 ≤ r → r < n → Stm t → Wp (k (r, t)) Q) : Wp ((M_l_next s n).bind k) Q :=
  wp_then (next_wp hs h0 h1) fun r h => f r.1 r.2 h.1 h.2.1 h.2.2
theorem wp_stream {β : Type} {xs : List Int} {i : Int} {k : List Int → Option β} {Q : β → Prop} (hk : 0 ≤ i) (f : ∀ t, Stm t → Wp (k t) Q) : Wp ((M_l_stream xs i).bind k) Q :=
  wp_then (stream_wp hk) f
theorem wp_let {α β : Type} {a : α} {k : α → Option β} {Q : β → Prop} (h : Wp (k a) Q) : Wp ((some a).bind k) Q := h
theorem sm_lt {i : Int} (h1 : -(2 ^ 64) < i) (h2 : i < 2 ^ 64) : sm i = true := by unfold sm; rw [Bool.and_eq_true]; exact ⟨decide_eq_true h1, decide_eq_true h2⟩
theorem rg_lt {i : Int} (h1 : -1000000 ≤ i) (h2 : i ≤ 16777216) : rg i = true := by unfold rg; rw [Bool.and_eq_true]; exact ⟨decide_eq_true (by omega), decide_eq_true h2⟩
theorem len_app (x y : Str) : (x ++ y).length = x.length + y.length := by
  show (x.cps ++ y.cps).size = x.cps.size + y.cps.size
  exact Array.size_append ..
end My
end
section
namespace My
open PySem PySem.Spec PyProof.Rows L2 L3
theorem cutS_len (z : Str) (lo hi : Option Int) : (cutS z lo hi).length ≤ z.length := by
  unfold cutS
  show (List.toArray _).size ≤ z.cps.size
  simp only [List.size_toArray, List.length_take, List.length_drop, Array.length_toList]
  omega
theorem cutS_mem {z : Str} {lo hi : Option Int} {c : Nat} (h : c ∈ (cutS z lo hi).cps.toList) : c ∈ z.cps.toList := by
  unfold cutS at h
  simp only [List.toList_toArray] at h
  exact List.mem_of_mem_drop (List.mem_of_mem_take h)
theorem len1 (c : Nat) : (⟨#[c]⟩ : Str).length = 1 := rfl
theorem cps_app (x y : Str) : (x ++ y).cps.toList = x.cps.toList ++ y.cps.toList := by
  show (x.cps ++ y.cps).toList = _
  exact Array.toList_append
theorem strOk_of {x : Str} (h : ∀ c ∈ x.cps.toList, c < 1000) : strOk x = true := by
  unfold strOk PyData.strOk
  rw [← Array.all_toList, List.all_eq_true]
  intro c hc
  have := h c hc
  exact decide_eq_true (by omega)
def isDg (c : Nat) : Bool := decide (48 ≤ c) && decide (c ≤ 57)
def dgOf (x : Str) : Option Nat := x.cps.toList.find? isDg
abbrev LET : Str := "qwertyuiopasdfghjklzxcvbnm_zyx"
abbrev DIG : Str := "7305186429"
theorem let_nodg : ∀ c ∈ LET.cps.toList, isDg c = false ∧ c < 1000 := by decide +kernel
theorem dig_dg : ∀ c ∈ DIG.cps.toList, isDg c = true ∧ c < 1000 := by decide +kernel
theorem dig_nd : DIG.cps.toList.Nodup := by decide +kernel
theorem dig_len : DIG.cps.toList.length = 10 := by decide +kernel
abbrev PN : List Str := ["x", "yard", "z", "u", "wide_one", "q", "pp", "t"]
theorem pn_nd : ∀ sh : Nat, sh < 8 → ∀ n : Nat, n < 9 → ((List.range n).map fun i => PN.getD ((i * 3 + sh) % 8) "").Nodup := by decide +kernel
theorem pn_ok : ∀ x ∈ PN, strOk x = true := by decide +kernel
theorem nodup_of_map {α β : Type} {f : α → β} : ∀ {l : List α}, (l.map f).Nodup → l.Nodup
  | [], _ => List.nodup_nil
  | x :: l, h => by
    rw [List.map_cons, List.nodup_cons] at h
    exact List.nodup_cons.mpr ⟨fun hx => h.1 (List.mem_map.mpr ⟨x, hx, rfl⟩), nodup_of_map h.2⟩
structure Nms (n : Int) (ns : List Str) : Prop where
  ln : (ns.length : Int) = n
  nd : ns.Nodup
  ok : ∀ x ∈ ns, strOk x = true
theorem names_wp {s : List Int} {n : Int} (hs : Stm s) (h0 : 0 ≤ n) (h1 : n ≤ 8) : Wp (M_l_names s n) fun r => Nms n r.1 ∧ Stm r.2 := by
  have hz := sz
  have hlen : (rngL 0 n.toNat).length = n.toNat := rngL_len _ _
  unfold M_l_names
  refine wp_next hs (by decide) (by decide) fun r t _ _ ht => wp_ite (fun _ => ?_) fun _ => ?_
  · refine wp_next ht (by decide) (by decide) fun r t hr0 hr1 ht => wp_let (wp_let (wp_grd (rg_lt (by omega) (by omega)) ?_))
    dsimp only
    have e : compM (rngL 0 n.toNat) () (fun x72 s74 => if true = true then grd ((sm x72 || sm (3 : Int)) = true) (grd (0 < (8 : Int)) ((atI PN (((x72 * (3 : Int)) + r) % (8 : Int))).bind fun x75 => some (some x75, ()))) else some ((none : Option Str), ())) = some ((rngL 0 n.toNat).filterMap (fun x => some (PN.getD ((x * 3 + r) % 8).toNat "")), ()) := compM_pure fun x _ => by
      rw [if_pos rfl, gp (by rw [show sm 3 = true from rfl, Bool.or_true]), gp (by decide)]
      have a0 := Int.emod_nonneg (x * 3 + r) (b := 8) (by decide)
      have a1 := Int.emod_lt_of_pos (x * 3 + r) (b := 8) (by decide)
      have hl : PN.length = 8 := rfl
      rw [atI_get a0 (by omega)]
      simp only [Option.bind_some]
      rw [List.getD_eq_getElem?_getD, List.getElem?_eq_getElem (by omega)]
      rfl
    have e2 : (rngL 0 n.toNat).filterMap (fun x => some (PN.getD ((x * 3 + r) % 8).toNat "")) = (List.range n.toNat).map fun i => PN.getD ((i * 3 + r.toNat) % 8) "" := by
      rw [filterMap_some]
      unfold rngL
      rw [List.map_map]
      apply List.map_congr_left
      intro i _
      show PN.getD (((0 + (i : Int)) * 3 + r) % 8).toNat "" = _
      congr 1
      omega
    rw [e2] at e
    refine wp_eq e (wp_some ⟨⟨?_, pn_nd r.toNat (by omega) n.toNat (by omega), fun x hx => ?_⟩, ht⟩)
    · show ((List.map _ _).length : Int) = n
      rw [List.length_map, List.length_range]
      omega
    · obtain ⟨i, _, rfl⟩ := List.mem_map.mp hx
      refine pn_ok _ ?_
      rw [List.getD_eq_getElem?_getD, List.getElem?_eq_getElem (by show _ < 8; omega)]
      exact List.getElem_mem _
  · refine wp_let (wp_let (wp_grd (rg_lt (by omega) (by omega)) (wp_bind (wp_for (fun p st => st.1.map dgOf = (DIG.cps.toList.take p.length).map some ∧ (∀ x ∈ st.1, strOk x = true) ∧ st.1.length = p.length ∧ Stm st.2) ⟨rfl, fun _ h => absurd h List.not_mem_nil, rfl, ht⟩ ?_ ?_))))
    · rintro p x q ⟨ys, st⟩ e ⟨hd, hok, hl, hst⟩
      have ex := rngL_split e
      have hl : ys.length = p.length := hl
      have hd : ys.map dgOf = (DIG.cps.toList.take p.length).map some := hd
      refine wp_next hst (by decide) (by decide) fun r2 t2 _ _ ht2 => wp_let (wp_next ht2 (by decide) (by decide) fun r3 t3 _ _ ht3 => wp_let (wp_next ht3 (by decide) (by decide) fun r4 t4 _ _ ht4 => ?_))
      dsimp only
      have c1 := cutS_len ("qwertyuiopasdfghjklzxcvbnm_zyx" : Str) (some (26 - r4)) (some 26)
      have c2 := cutS_len ("qwertyuiopasdfghjklzxcvbnm_zyx" : Str) (some r2) (some (r2 + (1 + r3)))
      have c3 : ("qwertyuiopasdfghjklzxcvbnm_zyx" : Str).length = 30 := by decide +kernel
      have hp10 : p.length < 8 := by omega
      refine wp_grd (by omega) (wp_let (wp_grd (by omega) (wp_grd (by decide +kernel) (wp_bind (wp_at (by omega) (by rw [dig_len]; omega) fun y hy ey => wp_grd ?_ (wp_grd ?_ (wp_grd ?_ (wp_some ⟨?_, ?_, ?_, ht4⟩))))))))
      · rw [len1]; omega
      · rw [len_app, len1]; omega
      · omega
      · show (ys ++ [_]).map dgOf = (DIG.cps.toList.take (p ++ [x]).length).map some
        rw [List.map_append, hd, List.length_append, List.length_singleton, List.take_succ, List.map_append]
        congr 1
        rw [show x.toNat = p.length by omega] at ey
        rw [ey]
        show [dgOf _] = [some y]
        congr 1
        unfold dgOf
        rw [cps_app, cps_app, List.find?_append, List.find?_append]
        have n1 : (cutS LET (some r2) (some (r2 + (1 + r3)))).cps.toList.find? isDg = none := by
          rw [List.find?_eq_none]
          intro c hc
          rw [(let_nodg c (cutS_mem hc)).1]
          decide
        rw [n1]
        show (([y] : List Nat).find? isDg).or _ = some y
        rw [List.find?_cons, (dig_dg y hy).1]
        rfl
      · intro z hz
        rcases List.mem_append.mp hz with h | h
        · exact hok z h
        · rw [List.mem_singleton.mp h]
          refine strOk_of fun c hc => ?_
          rw [cps_app, cps_app] at hc
          rcases List.mem_append.mp hc with h | h
          · rcases List.mem_append.mp h with h | h
            · exact (let_nodg c (cutS_mem h)).2
            · have h : c ∈ [y] := h
              rw [List.mem_singleton.mp h]
              exact (dig_dg y hy).2
          · exact (let_nodg c (cutS_mem h)).2
      · show (ys ++ [_]).length = (p ++ [x]).length
        simp only [List.length_append, List.length_singleton]; omega
    · rintro ⟨ys, st⟩ ⟨hd, hok, hl, hst⟩
      have hl : ys.length = (rngL 0 n.toNat).length := hl
      have hd : ys.map dgOf = (DIG.cps.toList.take (rngL 0 n.toNat).length).map some := hd
      refine wp_some ⟨⟨by show (ys.length : Int) = n; omega, nodup_of_map (f := dgOf) ?_, hok⟩, hst⟩
      show (ys.map dgOf).Nodup
      rw [hd]
      have : (DIG.cps.toList.take (rngL 0 n.toNat).length).Nodup := dig_nd.sublist (List.take_sublist _ _)
      exact this.map some fun a b h e => h (Option.some.inj e)
end My
end
section
namespace My
open PySem PySem.Spec PyProof.Rows L2 L3
section
variable {κ α : Type} [DecidableEq κ]
def putAll (s : List (κ × α)) (ks : List κ) (f : κ → α) : List (κ × α) := ks.foldl (fun s k => dput s k (f k)) s
theorem putAll_app {s : List (κ × α)} {ks js : List κ} {f : κ → α} : putAll s (ks ++ js) f = putAll (putAll s ks f) js f := List.foldl_append
theorem putAll_one {s : List (κ × α)} {ks : List κ} {k : κ} {f : κ → α} : putAll s (ks ++ [k]) f = dput (putAll s ks f) k (f k) := putAll_app
theorem len_putAll {f : κ → α} : ∀ {ks : List κ} {s : List (κ × α)}, (putAll s ks f).length ≤ s.length + ks.length
  | [], s => Nat.le_refl _
  | k :: ks, s => by
    have h := len_putAll (f := f) (ks := ks) (s := dput s k (f k))
    have h2 := dput_len s k (f k)
    show (putAll (dput s k (f k)) ks f).length ≤ _
    rw [List.length_cons]
    omega
theorem putAll_new {f : κ → α} : ∀ {ks : List κ} {s : List (κ × α)}, ks.Nodup → (∀ k ∈ ks, k ∉ keys s) → putAll s ks f = s ++ ks.map fun k => (k, f k)
  | [], s, _, _ => by simp [putAll]
  | k :: ks, s, nd, h => by
    rw [List.nodup_cons] at nd
    show putAll (dput s k (f k)) ks f = _
    rw [putAll_new nd.2 fun j hj => ?_, dput_new (h k List.mem_cons_self), List.append_assoc]
    · rfl
    · rw [mem_keys_put]
      exact fun z => z.elim (h j (List.mem_cons_of_mem _ hj)) fun e => nd.1 (by rw [← e]; exact hj)
theorem dcM_put {β : Type} {g : β → Option (κ × α)} {key : β → κ} {f : β → α} : ∀ {xs : List β} {acc : List (κ × α)}, (∀ x ∈ xs, g x = some (key x, f x)) → dcM xs acc g = some (xs.foldl (fun s x => dput s (key x) (f x)) acc)
  | [], acc, _ => rfl
  | x :: xs, acc, h => by
    unfold dcM
    rw [h x List.mem_cons_self]
    simp only [Option.bind_some]
    rw [dcM_put fun y hy => h y (List.mem_cons_of_mem _ hy)]
    rfl
theorem get_del {d : List (κ × α)} {k j : κ} : dget (ddel d k) j = if j = k then none else dget d j := by
  unfold ddel
  induction d with
  | nil => simp [dget_nil]
  | cons p d ih =>
    rw [List.filter_cons]
    by_cases h : p.1 = k
    · rw [if_neg (by simp [h]), ih, dget_cons]
      by_cases e : j = k
      · rw [if_pos e, if_pos e]
      · rw [if_neg e, if_neg e, if_neg (fun z => e (by rw [← z, h]))]
    · rw [if_pos (by simp [h]), dget_cons, dget_cons, ih]
      by_cases e : j = k
      · rw [if_pos e, if_pos e, if_neg (fun z => h (by rw [z, e]))]
      · rw [if_neg e, if_neg e]
theorem keys_del {d : List (κ × α)} {k : κ} : keys (ddel d k) = (keys d).filter fun j => decide (j ≠ k) := by
  unfold ddel keys
  rw [List.filter_map]
  rfl
theorem nodup_del {d : List (κ × α)} {k : κ} (nd : (keys d).Nodup) : (keys (ddel d k)).Nodup := by
  rw [keys_del]
  exact nd.sublist List.filter_sublist
theorem keys_ext {d e : List (κ × α)} (h : ∀ k, dget d k = dget e k) (k : κ) : k ∈ keys d ↔ k ∈ keys e := by
  have h1 := @dget_none κ α _ k d
  have h2 := @dget_none κ α _ k e
  rw [h k] at h1
  have h3 := h1.symm.trans h2
  by_cases a : k ∈ keys d
  · by_cases b : k ∈ keys e
    · exact ⟨fun _ => b, fun _ => a⟩
    · exact absurd a (h3.mpr b)
  · exact ⟨fun z => absurd z a, fun z => absurd z (h3.mp a)⟩
theorem len_ext {d e : List (κ × α)} (nd : (keys d).Nodup) (ne : (keys e).Nodup) (h : ∀ k, dget d k = dget e k) : d.length = e.length := by
  have h1 := sub_len nd fun k hk => (keys_ext h k).mp hk
  have h2 := sub_len ne fun k hk => (keys_ext h k).mpr hk
  unfold keys at h1 h2
  rw [List.length_map, List.length_map] at h1 h2
  omega
end
section
variable {α S ρ δ : Type}
theorem forL_go {f : α → S → Option (Bo S (Tm S ρ))} {s : S} : ∀ {xs : List α}, (∀ x ∈ xs, f x s = some (.nx s)) → forL xs s f = some (.nx s)
  | [], _ => rfl
  | x :: xs, h => by
    show (f x s).bind _ = _
    rw [h x List.mem_cons_self]
    exact forL_go fun y hy => h y (List.mem_cons_of_mem _ hy)
theorem compM_filter {f : α → S → Option (Option α × S)} {s : S} {c : α → Bool} : ∀ {xs : List α}, (∀ x ∈ xs, f x s = if c x = true then some (some x, s) else some (none, s)) → compM xs s f = some (xs.filter c, s)
  | [], _ => rfl
  | x :: xs, h => by
    have ih := compM_filter (f := f) (s := s) (c := c) (xs := xs) fun y hy => h y (List.mem_cons_of_mem _ hy)
    unfold compM
    rw [h x List.mem_cons_self]
    by_cases e : c x = true
    · rw [if_pos e, List.filter_cons_of_pos e]
      simp only [Option.bind_some]
      rw [ih]
      rfl
    · rw [if_neg e, List.filter_cons_of_neg e]
      simp only [Option.bind_some]
      rw [ih]
      rfl
theorem compM_map {f : α → S → Option (Option δ × S)} {s : S} {g : α → δ} {xs : List α} (h : ∀ x ∈ xs, f x s = some (some (g x), s)) : compM xs s f = some (xs.map g, s) := by
  rw [compM_pure (g := fun x => some (g x)) h, filterMap_some]
end
theorem cut_take {α : Type} {xs : List α} {i : Int} (h0 : 0 ≤ i) : cutL xs none (some i) = xs.take i.toNat := by
  unfold cutL
  have e1 : HT.sIx xs.length xs.length (some i) = min i.toNat xs.length := by
    unfold HT.sIx; simp only; rw [if_neg (by omega)]
  have e3 : HT.sIx xs.length 0 none = 0 := rfl
  rw [e1, e3, List.drop_zero, Nat.sub_zero]
  by_cases h : i.toNat ≤ xs.length
  · rw [Nat.min_eq_left h]
  · rw [Nat.min_eq_right (by omega), List.take_length, List.take_of_length_le (by omega)]
theorem cut_drop {α : Type} {xs : List α} {i : Int} (h0 : 0 ≤ i) : cutL xs (some i) none = xs.drop i.toNat := by
  unfold cutL
  have e2 : HT.sIx xs.length 0 (some i) = min i.toNat xs.length := by
    unfold HT.sIx; simp only; rw [if_neg (by omega)]
  have e4 : HT.sIx xs.length xs.length none = xs.length := rfl
  rw [e2, e4]
  by_cases h : i.toNat ≤ xs.length
  · rw [Nat.min_eq_left h, List.take_of_length_le (by rw [List.length_drop]; omega)]
  · rw [Nat.min_eq_right (by omega), List.drop_length, List.drop_of_length_le (by omega), List.take_nil]
theorem okNs {ns : List Str} (h : ∀ p ∈ ns, strOk p = true) : okG (dgL dgStr) ns ns = true := by
  have : (ns.all fun x => strOk x) = true := by
    rw [List.all_eq_true]
    exact h
  show ((ns.all fun x => strOk x) && (ns.all fun x => strOk x)) = true
  rw [this]; rfl
theorem pool_lt {s : List Int} {n : Int} (hs : Stm s) (h0 : 1 ≤ n) (h1 : n < 1000) : Wp (M_l_pool s n) fun r => (r.1.length : Int) = n ∧ r.1.Pairwise (· < ·) ∧ Stm r.2 := by
  have hz := sz
  unfold M_l_pool
  refine wp_next hs (by decide) (by decide) fun r t _ _ ht => wp_let (wp_grd (rg_lt (by omega) (by omega)) (wp_bind (wp_for (fun p st => st.1.length = p.length + 1 ∧ st.1.Pairwise (· < ·) ∧ (∀ v ∈ st.1, ∀ l, st.1.getLast? = some l → v ≤ l) ∧ Stm st.2) ⟨rfl, List.pairwise_singleton _ _, fun v hv l hl => ?_, ht⟩ ?_ ?_)))
  · have hl : some (r - 4) = some l := hl
    cases hl
    have hv : v ∈ [r - 4] := hv
    rw [List.mem_singleton.mp hv]
    exact Int.le_refl _
  · rintro p x q ⟨ys, st⟩ e ⟨hl, hlt, hle, hst⟩
    have ex := rngL_split e
    have hl : ys.length = p.length + 1 := hl
    dsimp only at hlt hle
    have hlast : ys.getLast? = ys[x.toNat]? := by rw [List.getLast?_eq_getElem?]; congr 1; omega
    refine wp_bind (wp_at (by omega) (by show x < (ys.length : Int); omega) fun y _ ey => wp_next hst (by decide) (by decide) fun r2 t2 hr2 _ ht2 => wp_grd (by rfl) (wp_grd (by rfl) (wp_grd (by show ys.length < sizeLine; omega) (wp_some ⟨?_, ?_, ?_, ht2⟩))))
    · show (ys ++ _).length = (p ++ [x]).length + 1
      simp only [List.length_append, List.length_singleton]
      omega
    · show (ys ++ [_]).Pairwise (· < ·)
      refine List.pairwise_append.mpr ⟨hlt, List.pairwise_singleton _ _, fun v hv w hw => ?_⟩
      rw [List.mem_singleton.mp hw]
      have := hle v hv y (by rw [hlast]; exact ey)
      dsimp only
      omega
    · intro v hv l hl2
      have hl2 : (ys ++ [_]).getLast? = some l := hl2
      rw [List.getLast?_concat] at hl2
      cases hl2
      rcases List.mem_append.mp hv with h | h
      · have := hle v h y (by rw [hlast]; exact ey)
        dsimp only
        omega
      · rw [List.mem_singleton.mp h]
        exact Int.le_refl _
  · rintro ⟨ys, st⟩ ⟨hl, hlt, hle, hst⟩
    have hl : ys.length = (rngL 0 (n - 1).toNat).length + 1 := hl
    rw [rngL_len] at hl
    refine wp_next hst (by decide) (by decide) fun r2 t2 h20 h21 ht2 => wp_bind (wp_at h20 (by simpa using h21) fun sc hsc _ => wp_let ?_)
    have hsc2 : sm sc = true ∧ 0 < sc := by
      simp only [List.mem_cons, List.not_mem_nil, or_false] at hsc
      rcases hsc with h | h | h | h | h | h | h | h <;> subst h <;> exact ⟨rfl, by decide⟩
    have e : compM ys () (fun x113 s114 => if true = true then grd ((sm x113 || sm sc) = true) (some (some (x113 * sc), ())) else some ((none : Option Int), ())) = some (ys.filterMap (fun x => some (x * sc)), ()) := compM_pure fun x _ => by
      rw [if_pos rfl, gp (by rw [hsc2.1, Bool.or_true])]
    refine wp_eq e (wp_some ⟨?_, ?_, ht2⟩)
    · show ((ys.filterMap _).length : Int) = n
      rw [filterMap_some, List.length_map]
      omega
    · show (ys.filterMap _).Pairwise (· < ·)
      rw [filterMap_some, List.pairwise_map]
      exact hlt.imp fun h => Int.mul_lt_mul_of_pos_right h hsc2.2
theorem nd_split {α : Type} {xs p t : List α} {k : α} (nd : xs.Nodup) (e : xs = p ++ k :: t) : k ∉ p := fun z => by
  rw [e] at nd
  exact (List.nodup_append.mp nd).2.2 k z k List.mem_cons_self rfl
theorem len_split {α : Type} {xs p t : List α} {k : α} (e : xs = p ++ k :: t) : p.length < xs.length := by
  rw [e, List.length_append, List.length_cons]; omega
def getB (b : Box) (k : Str) : List Int := (dget b k).getD []
theorem dget_B {b : Box} {k : Str} (h : k ∈ keys b) : dget b k = some (getB b k) := by
  obtain ⟨v, e⟩ := dget_some h
  unfold getB
  rw [e]; rfl
theorem map_self {d : Box} (nd : (keys d).Nodup) : (keys d).map (fun k => (k, getB d k)) = d := by
  unfold keys
  rw [List.map_map]
  conv => rhs; rw [← List.map_id d]
  apply List.map_congr_left
  intro p hp
  show (p.1, getB d p.1) = p
  unfold getB
  rw [mem_dget nd (show (p.1, p.2) ∈ d from hp)]
  rfl
theorem copy_self {d : Box} (nd : (keys d).Nodup) : putAll [] (keys d) (getB d) = d := by
  rw [putAll_new nd fun k _ h => absurd h List.not_mem_nil, map_self nd, List.nil_append]
theorem keys_len {κ α : Type} (d : List (κ × α)) : (keys d).length = d.length := List.length_map _
structure Side (x : List Int) : Prop where
  lt : x.Pairwise (· < ·)
  ln : x.length ≤ 1000
theorem Side.nil : Side [] := ⟨List.Pairwise.nil, Nat.zero_le _⟩
theorem Side.sub {x y : List Int} (h : Side x) (s : y.Sublist x) : Side y := ⟨h.lt.sublist s, Nat.le_trans s.length_le h.ln⟩
theorem Side.filter {x : List Int} (h : Side x) (p : Int → Bool) : Side (x.filter p) := h.sub List.filter_sublist
structure BoxOk (b : Box) : Prop where
  nd : (keys b).Nodup
  sd : ∀ k x, dget b k = some x → Side x
theorem BoxOk.get {b : Box} (h : BoxOk b) (k : Str) : Side (getB b k) := by
  unfold getB
  cases e : dget b k with
  | none => exact Side.nil
  | some x => exact h.sd k x e
theorem BoxOk.nil : BoxOk [] := ⟨List.nodup_nil, fun k x h => by rw [dget_nil] at h; cases h⟩
theorem BoxOk.put {b : Box} (h : BoxOk b) {k : Str} {x : List Int} (s : Side x) : BoxOk (dput b k x) := ⟨nodup_put h.nd, fun j y e => by
  rw [get_put] at e
  split at e
  · cases e; exact s
  · exact h.sd j y e⟩
theorem BoxOk.putAll {f : Str → List Int} : ∀ {ks : List Str} {b : Box}, BoxOk b → (∀ k ∈ ks, Side (f k)) → BoxOk (putAll b ks f)
  | [], _, h, _ => h
  | k :: ks, b, h, s => BoxOk.putAll (ks := ks) (b := dput b k (f k)) (h.put (s k List.mem_cons_self)) fun j hj => s j (List.mem_cons_of_mem _ hj)
theorem BoxOk.del {b : Box} (h : BoxOk b) (k : Str) : BoxOk (ddel b k) := ⟨nodup_del h.nd, fun j y e => by
  rw [get_del] at e
  split at e
  · cases e
  · exact h.sd j y e⟩
end My
end
section
namespace My
open PySem PySem.Spec PyProof.Rows L2 L3
end My
end
section
namespace My
open PySem PySem.Spec PyProof.Rows L2 L3
abbrev Dom := List (Str × List Int)
structure Dk (ns : List Str) (D : Dom) : Prop where
  ks : D.map Prod.fst = ns
  up : ∀ d ∈ D, d.2.Pairwise (· < ·) ∧ d.2.length ≤ 20
theorem domains_wp {s : List Int} {ns : List Str} {P : List Int} {m : Int} (hs : Stm s) (hP : P.Pairwise (· < ·)) (h0 : 0 < P.length) (h1 : P.length ≤ 20) (hn : ns.length ≤ 20) (hm : 1 ≤ m) : Wp (M_l_domains s ns P m) fun r => Dk ns r.1 ∧ Stm r.2 := by
  have hz := sz
  unfold M_l_domains
  refine wp_let (wp_bind (wp_for (fun p st => Dk p st.1 ∧ Stm st.2) ⟨⟨rfl, fun _ h => absurd h List.not_mem_nil⟩, hs⟩ ?_ ?_))
  · rintro p x t ⟨D, st⟩ e ⟨hd, hst⟩
    dsimp only at hd hst ⊢
    have hpl := len_split e
    have hDl : D.length = p.length := by rw [← hd.ks, List.length_map]
    refine wp_bind (wp_compM (fun p o s => o.Sublist p ∧ Stm s) (pre := []) (out := []) ⟨List.Sublist.refl _, hst⟩ ?_ fun r hr => wp_let ?_)
    · rintro p x t o s e ⟨ho, hst⟩
      refine wp_next hst (by decide) (by decide) fun r t _ _ ht => wp_ite (fun _ => wp_some ⟨?_, ht⟩) fun _ => wp_some ⟨?_, ht⟩
      · exact ho.append (List.Sublist.refl _)
      · show (o ++ []).Sublist _
        exact ho.append (List.nil_sublist _)
    obtain ⟨o, s⟩ := r
    obtain ⟨ho, hs⟩ := hr
    have ho : o.Sublist P := by simpa using ho
    dsimp only
    rw [cut_take (by omega)]
    have hol := ho.length_le
    have l1 : (o.take m.toNat).Pairwise (· < ·) ∧ (o.take m.toNat).length ≤ 20 := ⟨(hP.sublist ho).sublist (List.take_sublist _ _), by rw [List.length_take]; omega⟩
    refine wp_bind ?_
    have hif : Wp (if (decide (((o.take m.toNat).length : Int) = (0 : Int))) = true then (M_l_next s (P.length : Int)).bind fun r140 => (atI P (r140.1)).bind fun x141 => (some ([x141] : List Int)).bind fun x142 => some (x142, r140.2) else some (o.take m.toNat, s)) fun r => (r.1.Pairwise (· < ·) ∧ r.1.length ≤ 20) ∧ Stm r.2 :=
      wp_ite (fun _ => wp_next hs (by omega) (by omega) fun r t h0 h1 ht => wp_bind (wp_at h0 h1 fun v _ _ => wp_some ⟨⟨List.pairwise_singleton _ _, by show 1 ≤ 20; decide⟩, ht⟩)) fun _ => wp_some ⟨l1, hs⟩
    refine wp_mono hif fun r ⟨⟨r1, r2⟩, r3⟩ => wp_next r3 (by decide) (by decide) fun k t _ _ ht => wp_grd (by rw [sm_lt (i := (r.1.length : Int)) (by omega) (by omega)]; rfl) (wp_grd (by omega) (wp_some ⟨⟨?_, fun d hdm => ?_⟩, ht⟩))
    · show (D ++ [_]).map Prod.fst = _
      rw [List.map_append, hd.ks]; rfl
    · rcases List.mem_append.mp hdm with z | z
      · exact hd.up d z
      · rw [List.mem_singleton.mp z]
        have hnn : 0 ≤ (r.1.length : Int) * (if (!decide (k = 7)) then 1 else 0 : Int) := by split <;> omega
        show (cutL r.1 none (some ((r.1.length : Int) * (if (!decide (k = 7)) then 1 else 0 : Int)))).Pairwise (· < ·) ∧ _ ≤ 20
        rw [cut_take hnn]
        exact ⟨r1.sublist (List.take_sublist _ _), by rw [List.length_take]; omega⟩
  · rintro ⟨D, st⟩ h
    exact wp_some h
theorem part_wp {s xs : List Int} (hs : Stm s) : Wp (M_l_part s xs) fun r => r.1.Sublist xs ∧ Stm r.2 := by
  unfold M_l_part
  refine wp_bind (wp_compM (fun p o s => o.Sublist p ∧ Stm s) (pre := []) (out := []) ⟨List.Sublist.refl _, hs⟩ ?_ fun r h => wp_some h)
  rintro p x t o s e ⟨ho, hst⟩
  refine wp_next hst (by decide) (by decide) fun r t _ _ ht => wp_ite (fun _ => wp_some ⟨?_, ht⟩) fun _ => wp_some ⟨?_, ht⟩
  · exact ho.append (List.Sublist.refl _)
  · show (o ++ []).Sublist _
    exact ho.append (List.nil_sublist _)
theorem copied_ok {d : Box} (nd : (keys d).Nodup) (hl : d.length < 1000) : M_l_copied d = some d := by
  have hz := sz
  apply wp_is
  unfold M_l_copied
  refine wp_let (wp_bind (wp_for (fun p s => s = putAll [] p (getB d)) rfl ?_ fun s hs => wp_some (by rw [hs, copy_self nd])))
  rintro p k t s e rfl
  have hl2 := congrArg List.length e
  rw [keys_len, List.length_append] at hl2
  have := len_putAll (s := []) (ks := p) (f := getB d)
  refine wp_eq (dget_B (mem_split e)) (wp_grd (by rw [List.length_nil] at this; omega) (wp_some ?_))
  rw [putAll_one]
theorem is_side_ok {xs : List Int} (h : xs.Pairwise (· < ·)) (hl : xs.length < 100000) : M_l_is_side xs = some true := by
  have e1 : compM xs () (fun x205 s207 => if true = true then (M_l_is_integer x205).bind fun r209 => some (some r209, ()) else some ((none : Option Bool), ())) = some (xs.filterMap (fun _ => some true), ()) := compM_pure fun x _ => by
    unfold M_l_is_integer
    rfl
  have e2 : compM (rngL 0 ((xs.length : Int) - (1 : Int)).toNat) () (fun x214 s217 => if true = true then (atI xs x214).bind fun x219 => (atI xs (x214 + (1 : Int))).bind fun x220 => some (some (decide (x219 < x220)), ()) else some ((none : Option Bool), ())) = some ((rngL 0 ((xs.length : Int) - (1 : Int)).toNat).filterMap (fun _ => some true), ()) := compM_pure fun x hx => by
    have hx := rngL_mem.mp hx
    rw [if_pos rfl, atI_get (by omega) (by omega), atI_get (by omega) (by omega)]
    simp only [Option.bind_some]
    rw [decide_eq_true]
    exact List.pairwise_iff_getElem.mp h _ _ _ _ (by omega)
  rw [filterMap_some] at e1 e2
  apply wp_is
  unfold M_l_is_side
  rw [if_neg (by decide)]
  refine wp_bind (wp_eq e1 (wp_some ?_))
  dsimp only
  rw [if_neg (by simp)]
  refine wp_grd (rg_lt (by omega) (by omega)) (wp_eq e2 (wp_some ?_))
  simp
theorem common_ok (x y : List Int) : M_common x y = some (x.filter fun v => decide (v ∈ y)) := by
  unfold M_common
  rw [List.map_id']
theorem same_ok {x y : Box} (hx : BoxOk x) (ny : (keys y).Nodup) (h : ∀ k, dget x k = dget y k) : M_l_same_sides x y = some true := by
  have hl := len_ext hx.nd ny h
  have hk := keys_len y
  have e1 : ∀ k ∈ keys y, dget x k = some (getB x k) := fun k hk => dget_B ((keys_ext h k).mpr hk)
  have e2 : (keys y).filter (fun _ => true) = keys y := List.filter_eq_self.mpr fun _ _ => rfl
  apply wp_is
  unfold M_l_same_sides
  rw [if_neg (by simp [hl])]
  refine wp_eq (compM_filter (c := fun _ => true) fun k hk => ?_) (wp_let ?_)
  · rw [if_pos (by rw [dhas_get, e1 k hk]; rfl), e1 k hk]
    simp only [Option.bind_some]
    rw [is_side_ok (hx.get k).lt (by have := (hx.get k).ln; omega)]
    rfl
  · dsimp only
    rw [e2, if_pos (by rw [hk]; simp)]
    refine wp_bind (wp_eq (compM_map (g := fun _ => true) fun k hk => ?_) (wp_some (wp_some ?_)))
    · rw [if_pos rfl, ← h, e1 k hk]
      simp
    · simp
theorem wp_if {α : Type} {c : Bool} {m n : Option α} {Q : α → Prop} (h : c = true → Wp m Q) (k : c = false → Wp n Q) : Wp (if c = true then m else n) Q :=
  wp_ite h fun z => k (by cases c with | true => exact absurd rfl z | false => rfl)
theorem wp_boN {S τ γ : Type} {k2 : S → Option γ} {ι : τ → γ} {s : S} {Q : γ → Prop} (h : Wp (k2 s) Q) : Wp (boK k2 ι (Bo.nx s)) Q := h
end My
end
section
namespace My
open PySem PySem.Spec PyProof.Rows L2 L3
theorem filter_filter_mem {x : List Int} {p : Int → Bool} : x.filter (fun v => decide (v ∈ x.filter p)) = x.filter p := by
  apply List.filter_congr
  intro v hv
  cases h : p v
  · exact decide_eq_false fun z => by rw [(List.mem_filter.mp z).2] at h; cases h
  · exact decide_eq_true (List.mem_filter.mpr ⟨hv, h⟩)
def fill (B D : Box) (k : Str) : List Int := match dget B k with | some x => (getB D k).filter (fun v => decide (v ∈ x)) | none => getB D k
def FlB (B D : Box) (ns : List Str) : Box := ns.map fun k => (k, fill B D k)
def slim (B D : Box) (k : Str) : Bool := decide (((fill B D k).length : Int) < ((getB D k).length : Int))
def TrB (B D : Box) (ns : List Str) : Box := (ns.filter (slim B D)).map fun k => (k, fill B D k)
structure Do (ns : List Str) (D : Box) : Prop where
  ks : D.map Prod.fst = ns
  nd : ns.Nodup
  up : ∀ d ∈ D, d.2.Pairwise (· < ·) ∧ d.2.length ≤ 20
  ln : ns.length ≤ 20
section
variable {ns : List Str} {D B : Box}
theorem Do.dl (h : Do ns D) : D.length = ns.length := by rw [← h.ks, List.length_map]
theorem Do.get (h : Do ns D) {k : Str} (hk : k ∈ ns) : dget D k = some (getB D k) := dget_B (by rw [show keys D = ns from h.ks]; exact hk)
theorem Do.sd (h : Do ns D) (k : Str) : (getB D k).Pairwise (· < ·) ∧ (getB D k).length ≤ 20 := by
  unfold getB
  cases e : dget D k with
  | none => exact ⟨List.Pairwise.nil, Nat.zero_le _⟩
  | some x => exact h.up (k, x) (dget_mem e)
theorem Do.self (h : Do ns D) : D = ns.map fun k => (k, getB D k) := by
  have := map_self (d := D) (by rw [show keys D = ns from h.ks]; exact h.nd)
  rw [show keys D = ns from h.ks] at this
  exact this.symm
theorem mapk_keys {l : List Str} {f : Str → List Int} : keys (l.map fun k => (k, f k)) = l := by
  unfold keys
  rw [List.map_map]
  exact List.map_id _
theorem mapk_get {l : List Str} {f : Str → List Int} (nd : l.Nodup) (k : Str) : dget (l.map fun k => (k, f k)) k = if k ∈ l then some (f k) else none := by
  by_cases h : k ∈ l
  · rw [if_pos h]
    exact mem_dget (by rw [mapk_keys]; exact nd) (List.mem_map.mpr ⟨k, h, rfl⟩)
  · rw [if_neg h]
    exact dget_none.mpr (by rw [mapk_keys]; exact h)
theorem fill_sub (k : Str) : (fill B D k).Sublist (getB D k) := by
  unfold fill
  split
  · exact List.filter_sublist
  · exact List.Sublist.refl _
theorem fill_sd (h : Do ns D) (k : Str) : (fill B D k).Pairwise (· < ·) ∧ (fill B D k).length ≤ 20 := ⟨(h.sd k).1.sublist (fill_sub k), Nat.le_trans (fill_sub k).length_le (h.sd k).2⟩
theorem mapk_ok (h : Do ns D) {l : List Str} (nd : l.Nodup) : BoxOk (l.map fun k => (k, fill B D k)) := ⟨by rw [mapk_keys]; exact nd, fun k x hx => by
  rw [mapk_get nd] at hx
  split at hx
  · cases hx
    exact ⟨(fill_sd h k).1, Nat.le_trans (fill_sd h k).2 (by decide)⟩
  · cases hx⟩
theorem common_fill (h : Do ns D) (hb : BoxOk B) {k : Str} {x : List Int} (e : dget B k = some x) : x.filter (fun v => decide (v ∈ getB D k)) = fill B D k := by
  unfold fill
  rw [e]
  refine lt_uniq ((hb.sd k x e).lt.sublist List.filter_sublist) ((h.sd k).1.sublist List.filter_sublist) fun v => ?_
  rw [List.mem_filter, List.mem_filter, decide_eq_true_eq, decide_eq_true_eq]
  exact and_comm
theorem foldl_put {l : List (Str × List Int)} : ∀ {acc : Box}, (keys acc ++ l.map Prod.fst).Nodup → l.foldl (fun s x => dput s x.1 x.2) acc = acc ++ l := by
  induction l with
  | nil => intro acc _; simp
  | cons p l ih =>
    intro acc nd
    have hk : p.1 ∉ keys acc := fun z => (List.nodup_append.mp nd).2.2 _ z _ List.mem_cons_self rfl
    show l.foldl _ (dput acc p.1 p.2) = _
    rw [ih (by rw [keys_put_new hk, List.append_assoc]; exact nd), dput_new hk, List.append_assoc]
    rfl
theorem sides_ok (h : Do ns D) : dcM D ([] : Box) (fun x4 => some (x4.1, x4.2)) = some D := by
  rw [dcM_put (β := Str × List Int) (g := fun x4 => some (x4.1, x4.2)) (key := fun x => x.1) (f := fun x => x.2) (fun x _ => rfl), foldl_put (by show (D.map Prod.fst).Nodup; rw [h.ks]; exact h.nd)]
  rfl
theorem forL_hit {α S ρ : Type} {f : α → S → Option (Bo S (Tm S ρ))} {s : S} {r : ρ} {n : α} {t : List α} : ∀ {p : List α}, (∀ x ∈ p, f x s = some (.nx s)) → f n s = some (.tm (.rt r)) → forL (p ++ n :: t) s f = some (.tm r)
  | [], _, h => by
    show (f n s).bind _ = _
    rw [h]; rfl
  | x :: p, hp, h => by
    show (f x s).bind _ = _
    rw [hp x List.mem_cons_self]
    exact forL_hit (fun y hy => hp y (List.mem_cons_of_mem _ hy)) h
theorem filled_bad (h : Do ns D) {p t : List Str} {n : Str} (hk : keys B = p ++ n :: t) (hp : ∀ k ∈ p, k ∈ ns) (hn : n ∉ ns) : M_filled B D = some (.error ⟨"UnknownName", [.str n]⟩) := by
  unfold M_filled
  rw [sides_ok h]
  refine wp_is (wp_let (wp_let ?_))
  rw [show B.map Prod.fst = p ++ n :: t from hk]
  refine wp_eq (forL_hit (r := Except.error ⟨"UnknownName", [.str n]⟩) (fun x hx => ?_) ?_) (wp_some rfl)
  · rw [dhas_iff.mpr (show x ∈ keys D by rw [show keys D = ns from h.ks]; exact hp x hx)]; rfl
  · rw [dhas_not.mpr (show n ∉ keys D by rw [show keys D = ns from h.ks]; exact hn)]; rfl
theorem filled_ok (h : Do ns D) (hb : BoxOk B) (hk : ∀ k ∈ keys B, k ∈ ns) : M_filled B D = some (.ok (FlB B D ns)) := by
  have hz := sz
  have hkd : keys D = ns := h.ks
  have hln := h.ln
  unfold M_filled
  rw [sides_ok h]
  refine wp_is (wp_let (wp_let (wp_eq (forL_go fun x hx => ?_) ?_)))
  · rw [dhas_iff.mpr (show x ∈ keys D by rw [hkd]; exact hk x hx)]; rfl
  refine wp_boN (wp_let (wp_bind (wp_for (fun p (s : Box) => s = p.map fun k => (k, fill B D k)) rfl ?_ fun s hs => wp_some (by rw [hs, show D.map Prod.fst = ns from h.ks]; rfl))))
  rintro p k t s e rfl
  have hpl := len_split e
  rw [show D.map Prod.fst = ns from h.ks] at e hpl
  have hkn : k ∈ ns := mem_split e
  have hkp := nd_split h.nd e
  have hl : (p.map fun k => (k, fill B D k)).length < sizeLine := by rw [List.length_map]; omega
  have hput : dput (p.map fun k => (k, fill B D k)) k (fill B D k) = (p ++ [k]).map fun k => (k, fill B D k) := by
    rw [dput_new (by rw [mapk_keys]; exact hkp), List.map_append]; rfl
  refine wp_bind (wp_mono (Q := fun s => s = (p ++ [k]).map fun k => (k, fill B D k)) (wp_if (fun z => ?_) fun z => ?_) fun s hs => wp_some hs)
  · obtain ⟨x, ex⟩ := dget_some (dhas_iff.mp z)
    exact wp_eq ex (wp_eq (h.get hkn) (wp_eq (common_ok _ _) (wp_grd hl (wp_some (by rw [common_fill h hb ex, hput])))))
  · have ez : dget B k = none := dget_none.mpr (dhas_not.mp z)
    refine wp_eq (h.get hkn) (wp_grd hl (wp_some ?_))
    rw [← hput]
    unfold fill
    rw [ez]
theorem dcF_pick {l : List (Str × List Int)} {f : Str × List Int → Option (Option (Str × (Str × List Int)))} {c : Str → Bool} {g : Str → List Int} (hf : ∀ x ∈ l, f x = if c x.1 = true then some (some (x.1, (x.1, g x.1))) else some none) : ∀ {acc : List (Str × (Str × List Int))}, (keys acc ++ l.map Prod.fst).Nodup → dcF l acc f = some (acc ++ ((l.map Prod.fst).filter c).map fun k => (k, (k, g k))) := by
  induction l with
  | nil => intro acc _; simp [dcF]
  | cons x l ih =>
    intro acc nd
    have ih := @ih fun y hy => hf y (List.mem_cons_of_mem _ hy)
    have hk : x.1 ∉ keys acc := fun z => (List.nodup_append.mp nd).2.2 _ z _ List.mem_cons_self rfl
    unfold dcF
    rw [hf x List.mem_cons_self]
    by_cases h : c x.1 = true
    · rw [if_pos h]
      simp only [Option.bind_some]
      rw [ih (by rw [keys_put_new hk, List.append_assoc]; exact nd), dput_new hk, List.map_cons, List.filter_cons_of_pos h, List.map_cons, List.append_assoc]
      rfl
    · rw [if_neg h]
      simp only [Option.bind_some]
      rw [ih (List.Nodup.sublist ((List.Sublist.refl _).append (List.sublist_cons_self _ _)) nd), List.map_cons, List.filter_cons_of_neg h]
theorem trimmed_bad (h : Do ns D) {p t : List Str} {n : Str} (hk : keys B = p ++ n :: t) (hp : ∀ k ∈ p, k ∈ ns) (hn : n ∉ ns) : M_trimmed B D = some (.error ⟨"UnknownName", [.str n]⟩) := by
  unfold M_trimmed
  rw [filled_bad h hk hp hn]
  rfl
theorem trimmed_ok (h : Do ns D) (hb : BoxOk B) (hk : ∀ k ∈ keys B, k ∈ ns) : M_trimmed B D = some (.ok (TrB B D ns)) := by
  have hfn : (ns.filter (slim B D)).Nodup := h.nd.sublist List.filter_sublist
  unfold M_trimmed
  rw [filled_ok h hb hk]
  refine wp_is (wp_let ?_)
  unfold xK
  dsimp only
  refine wp_let ?_
  have hg : ∀ k ∈ ns, dget (FlB B D ns) k = some (fill B D k) := fun k hk => by unfold FlB; rw [mapk_get h.nd, if_pos hk]
  refine wp_eq (dcF_pick (c := slim B D) (g := fill B D) (fun x hx => ?_) (by show (D.map Prod.fst).Nodup; rw [h.ks]; exact h.nd)) ?_
  · have hxn : x.1 ∈ ns := by rw [← h.ks]; exact List.mem_map_of_mem hx
    have hgx : getB D x.1 = x.2 := by
      unfold getB
      rw [mem_dget (by rw [show keys D = ns from h.ks]; exact h.nd) (show (x.1, x.2) ∈ D from hx)]
      rfl
    rw [hg _ hxn]
    simp only [Option.bind_some]
    unfold slim
    rw [hgx]
  · rw [List.nil_append, h.ks]
    refine wp_grd ?_ (wp_some ?_)
    · unfold tkOk
      rw [Bool.and_eq_true]
      refine ⟨decide_eq_true ?_, List.all_eq_true.mpr fun q hq => ?_⟩
      · rw [List.map_map]
        show ((ns.filter (slim B D)).map fun k => k).Nodup
        rw [List.map_id']; exact hfn
      · obtain ⟨k, hk, rfl⟩ := List.mem_map.mp hq
        have hk := (List.mem_filter.mp hk).1
        rw [Bool.and_eq_true]
        exact ⟨decide_eq_true rfl, decide_eq_true (hg k hk)⟩
    · congr 1
      rw [List.map_map]
      rfl
theorem full_ok (h : Do ns D) : M_l_full B D = some (FlB B D ns) := by
  have hz := sz
  have hln := h.ln
  have hdl := h.dl
  unfold M_l_full
  refine wp_is (wp_let (wp_bind (wp_for (fun p (s : Box) => s = (p.map Prod.fst).map fun k => (k, fill B D k)) rfl ?_ fun s hs => wp_some (by rw [hs, h.ks]; rfl))))
  rintro p x t s e rfl
  have hpl := len_split e
  have e2 : ns = p.map Prod.fst ++ x.1 :: t.map Prod.fst := by rw [← h.ks, e, List.map_append, List.map_cons]
  have hkn : x.1 ∈ ns := mem_split e2
  have hkp := nd_split h.nd e2
  have hgx : getB D x.1 = x.2 := by
    unfold getB
    rw [mem_dget (by rw [show keys D = ns from h.ks]; exact h.nd) (show (x.1, x.2) ∈ D from mem_split e)]
    rfl
  have hl : ((p.map Prod.fst).map fun k => (k, fill B D k)).length < sizeLine := by rw [List.length_map, List.length_map]; omega
  have hput : ∀ y : List Int, dput ((p.map Prod.fst).map fun k => (k, fill B D k)) x.1 y = ((p.map Prod.fst).map fun k => (k, fill B D k)) ++ [(x.1, y)] := fun y => dput_new (by rw [mapk_keys]; exact hkp)
  have hput2 : ∀ y z : List Int, dput (dput ((p.map Prod.fst).map fun k => (k, fill B D k)) x.1 y) x.1 z = ((p.map Prod.fst).map fun k => (k, fill B D k)) ++ [(x.1, z)] := fun y z => by
    rw [dput_old (mem_keys_put.mpr (.inr rfl)), hput, List.map_append, List.map_cons, if_pos rfl]
    congr 1
    refine (List.map_congr_left fun q hq => ?_).trans (List.map_id _)
    rw [if_neg]
    · rfl
    · intro e
      exact hkp (by rw [← e, ← mapk_keys (l := p.map Prod.fst) (f := fill B D)]; exact List.mem_map_of_mem hq)
  refine wp_grd hl (wp_bind (wp_mono (Q := fun s => s = ((p ++ [x]).map Prod.fst).map fun k => (k, fill B D k)) (wp_if (fun z => ?_) fun z => ?_) fun s hs => wp_some hs))
  · obtain ⟨y, ey⟩ := dget_some (dhas_iff.mp z)
    refine wp_eq (compM_filter (c := fun v => decide (v ∈ y)) fun v _ => by rw [ey]; rfl) (wp_grd (by rw [hput, List.length_append, List.length_singleton]; rw [List.length_map, List.length_map]; omega) (wp_some ?_))
    rw [hput2, List.map_append, List.map_append]
    congr 1
    show [(x.1, x.2.filter _)] = [(x.1, fill B D x.1)]
    unfold fill
    rw [ey, hgx]
  · have ez : dget B x.1 = none := dget_none.mpr (dhas_not.mp z)
    refine wp_some ?_
    rw [hput, List.map_append, List.map_append]
    congr 1
    show [(x.1, x.2)] = [(x.1, fill B D x.1)]
    unfold fill
    rw [ez, hgx]
theorem slim_ok (h : Do ns D) : M_l_slim (FlB B D ns) D = some (TrB B D ns) := by
  have hz := sz
  have hln := h.ln
  have hdl := h.dl
  unfold M_l_slim
  refine wp_is (wp_let (wp_bind (wp_for (fun p (s : Box) => s = ((p.map Prod.fst).filter (slim B D)).map fun k => (k, fill B D k)) rfl ?_ fun s hs => wp_some (by rw [hs, h.ks]; rfl))))
  rintro p x t s e rfl
  have hpl := len_split e
  have e2 : ns = p.map Prod.fst ++ x.1 :: t.map Prod.fst := by rw [← h.ks, e, List.map_append, List.map_cons]
  have hkn : x.1 ∈ ns := mem_split e2
  have hkp := nd_split h.nd e2
  have hgx : getB D x.1 = x.2 := by
    unfold getB
    rw [mem_dget (by rw [show keys D = ns from h.ks]; exact h.nd) (show (x.1, x.2) ∈ D from mem_split e)]
    rfl
  have hg : dget (FlB B D ns) x.1 = some (fill B D x.1) := by unfold FlB; rw [mapk_get h.nd, if_pos hkn]
  have hfl := List.length_filter_le (slim B D) (p.map Prod.fst)
  rw [List.length_map] at hfl
  rw [hg]
  refine wp_let (wp_bind (wp_mono (Q := fun s => s = (((p ++ [x]).map Prod.fst).filter (slim B D)).map fun k => (k, fill B D k)) (wp_if (fun z => wp_let (wp_grd (by rw [List.length_map]; omega) (wp_some ?_))) fun z => wp_some ?_) fun s hs => wp_some hs))
  · have hs : slim B D x.1 = true := by unfold slim; rw [hgx]; exact z
    rw [dput_new (by rw [mapk_keys]; exact fun q => hkp (List.mem_filter.mp q).1), List.map_append, List.filter_append, List.map_append]
    congr 1
    show _ = List.map _ ([x.1].filter _)
    rw [List.filter_cons_of_pos hs]; rfl
  · have hs : ¬ slim B D x.1 = true := by unfold slim; rw [hgx, z]; decide
    rw [List.map_append, List.filter_append]
    show _ = List.map _ (_ ++ [x.1].filter _)
    rw [List.filter_cons_of_neg hs, List.filter_nil, List.append_nil]
theorem fill_Fl (h : Do ns D) {k : Str} (hk : k ∈ ns) : fill (FlB B D ns) D k = fill B D k := by
  have : dget (FlB B D ns) k = some (fill B D k) := by unfold FlB; rw [mapk_get h.nd, if_pos hk]
  conv => lhs; unfold fill
  rw [this]
  show (getB D k).filter (fun v => decide (v ∈ fill B D k)) = _
  unfold fill
  split
  · exact filter_filter_mem
  · exact List.filter_eq_self.mpr fun v hv => decide_eq_true hv
theorem fill_Tr (h : Do ns D) {k : Str} (hk : k ∈ ns) : fill (TrB B D ns) D k = fill B D k := by
  have e : dget (TrB B D ns) k = if k ∈ ns.filter (slim B D) then some (fill B D k) else none := mapk_get (h.nd.sublist List.filter_sublist) k
  by_cases c : slim B D k = true
  · rw [if_pos (List.mem_filter.mpr ⟨hk, c⟩)] at e
    conv => lhs; unfold fill
    rw [e]
    show (getB D k).filter (fun v => decide (v ∈ fill B D k)) = _
    unfold fill
    split
    · exact filter_filter_mem
    · exact List.filter_eq_self.mpr fun v hv => decide_eq_true hv
  · rw [if_neg fun z => c (List.mem_filter.mp z).2] at e
    conv => lhs; unfold fill
    rw [e]
    show getB D k = _
    refine (List.Sublist.eq_of_length_le (fill_sub k) ?_).symm
    unfold slim at c
    simp only [decide_eq_true_eq] at c
    omega
theorem Fl_congr {B' : Box} (hf : ∀ k ∈ ns, fill B' D k = fill B D k) : FlB B' D ns = FlB B D ns := by
  unfold FlB
  exact List.map_congr_left fun k hk => by rw [hf k hk]
theorem Tr_congr {B' : Box} (hf : ∀ k ∈ ns, fill B' D k = fill B D k) : TrB B' D ns = TrB B D ns := by
  unfold TrB
  have : ns.filter (slim B' D) = ns.filter (slim B D) := List.filter_congr fun k hk => by unfold slim; rw [hf k hk]
  rw [this]
  exact List.map_congr_left fun k hk => by rw [hf k (List.mem_filter.mp hk).1]
theorem Fl_ok (h : Do ns D) : BoxOk (FlB B D ns) := mapk_ok h h.nd
theorem Tr_ok (h : Do ns D) : BoxOk (TrB B D ns) := mapk_ok h (h.nd.sublist List.filter_sublist)
theorem Fl_ks : ∀ k ∈ keys (FlB B D ns), k ∈ ns := fun k hk => by unfold FlB at hk; rw [mapk_keys] at hk; exact hk
theorem Tr_ks : ∀ k ∈ keys (TrB B D ns), k ∈ ns := fun k hk => by unfold TrB at hk; rw [mapk_keys] at hk; exact (List.mem_filter.mp hk).1
theorem same_self {x : Box} (hx : BoxOk x) : M_l_same_sides x x = some true := same_ok hx hx.nd fun _ => rfl
theorem new_ok {x : Box} (hx : BoxOk x) (hl : x.length ≤ 100) : ∃ y, M_l_new x x = some (true, y) := by
  have hz := sz
  have hbig : (10 : Int) ^ (13 : Int).toNat = 10000000000000 := by decide +kernel
  have key : Wp (M_l_new x x) fun r => r.1 = true := by
    unfold M_l_new
    refine wp_bind (wp_for (fun p (s : Box) => ∀ k, dget s k = if k ∈ p then (dget x k).map (· ++ [(10 : Int) ^ (13 : Int).toNat]) else dget x k) (fun k => by rw [if_neg List.not_mem_nil]) ?_ fun s hs => ?_)
    · intro p k t s e hs
      have hk : k ∈ keys x := mem_split e
      have hkp := nd_split hx.nd e
      have hg := hs k
      rw [if_neg hkp, dget_B hk] at hg
      have hgl := (hx.get k).ln
      refine wp_eq hg (wp_grd (by omega) (wp_some fun j => ?_))
      rw [get_put, hs j]
      by_cases ej : j = k
      · rw [if_pos ej, if_pos (by rw [ej]; simp), ej, dget_B hk]; rfl
      · rw [if_neg ej]
        by_cases hj : j ∈ p
        · rw [if_pos hj, if_pos (List.mem_append_left _ hj)]
        · rw [if_neg hj, if_neg fun z => (List.mem_append.mp z).elim hj fun z => ej (List.mem_singleton.mp z)]
    · refine wp_eq (forL_go fun k hk => ?_) (wp_boN (wp_some rfl))
      have hk : k ∈ keys x := hk
      have hg := hs k
      rw [if_pos hk, dget_B hk] at hg
      have hgl := (hx.get k).ln
      rw [hg]
      simp only [Option.map_some, Option.bind_some]
      rw [dget_B hk]
      simp only [Option.bind_some]
      rw [gp (by rw [List.length_singleton]; omega)]
      simp
  obtain ⟨⟨b, y⟩, e, hb⟩ := key
  exact ⟨y, by rw [e]; cases hb; rfl⟩
end
end My
end
section
namespace My
open PySem PySem.Spec PyProof.Rows L2 L3
theorem ix_ok {n : Nat} {i : Int} (h0 : 0 ≤ i) (h1 : i < (n : Int)) : ixN n i = some i.toNat := by
  unfold ixN
  rw [if_pos h0, if_pos (by omega)]
theorem cpD {D : Box} : ((D.filter fun _ => true).map fun x => (x.1, x.2)) = D := by
  rw [List.filter_eq_self.mpr fun _ _ => rfl]
  exact List.map_id _
theorem okD {D : Box} (h : ∀ k ∈ D.map Prod.fst, strOk k = true) : okG (dgL (dgT2 dgStr (dgL dgInt))) D D = true := by
  have key : D.all (dgT2 dgStr (dgL dgInt)).ok = true := List.all_eq_true.mpr fun p hp => by
    show (strOk p.1 && p.2.all fun _ => true) = true
    rw [h p.1 (List.mem_map_of_mem hp)]
    simp
  unfold okG
  show (D.all _ && D.all _) = true
  rw [key]
  rfl
section
variable {ns : List Str} {D B : Box}
theorem formed_ok (h : Do ns D) (hb : BoxOk B) (hk : ∀ k ∈ keys B, k ∈ ns) (so : ∀ k ∈ ns, strOk k = true) : M_l_formed B D = some true := by
  have hz := sz
  have hln := h.ln
  have hbl : B.length ≤ ns.length := by rw [← keys_len]; exact sub_len hb.nd hk
  have hF := Fl_ok (B := B) h
  have hT := Tr_ok (B := B) h
  have hFl : (FlB B D ns).length = ns.length := by unfold FlB; rw [List.length_map]
  have hTl : (TrB B D ns).length ≤ ns.length := by unfold TrB; rw [List.length_map]; exact List.length_filter_le _ _
  have f0 := filled_ok h hb hk
  have t0 := trimmed_ok h hb hk
  have f1 : M_filled (FlB B D ns) D = some (.ok (FlB B D ns)) := by rw [filled_ok h hF Fl_ks, Fl_congr fun k hk => fill_Fl h hk]
  have f2 : M_filled (TrB B D ns) D = some (.ok (FlB B D ns)) := by rw [filled_ok h hT Tr_ks, Fl_congr fun k hk => fill_Tr h hk]
  have t1 : M_trimmed (FlB B D ns) D = some (.ok (TrB B D ns)) := by rw [trimmed_ok h hF Fl_ks, Tr_congr fun k hk => fill_Fl h hk]
  have t2 : M_trimmed (TrB B D ns) D = some (.ok (TrB B D ns)) := by rw [trimmed_ok h hT Tr_ks, Tr_congr fun k hk => fill_Tr h hk]
  obtain ⟨F', eF⟩ := new_ok hF (by omega)
  obtain ⟨T', eT⟩ := new_ok hT (by omega)
  have sF := same_self hF
  have sT := same_self hT
  have eFull := full_ok (B := B) h
  have eSlim := slim_ok (B := B) h
  have nF := hF.nd
  generalize FlB B D ns = F at *
  generalize TrB B D ns = T at *
  have any3 : ∀ {y z : Box} {i : Int}, 0 ≤ i → i < 3 → ∀ {Q : Box → Prop}, Q y → Wp (atI [y, y, y] i) Q := fun {y z i} h0 h1 {Q} hq => wp_at h0 (by simpa using h1) fun w hw _ => by
    simp only [List.mem_cons, List.not_mem_nil, or_false] at hw
    rcases hw with e | e | e <;> (rw [e]; exact hq)
  unfold M_l_formed
  refine wp_is (wp_eq eFull (wp_let (wp_eq eSlim (wp_let (wp_eq (copied_ok hb.nd (by omega)) (wp_let (wp_let ?_)))))))
  rw [cpD]
  refine wp_grd (by rfl) (wp_eq (forL_go fun x _ => ?_) (wp_boN (wp_some rfl)))
  refine wp_is (wp_eq (a := F) (by rw [f0]; rfl) (wp_let (wp_eq (a := T) (by rw [t0]; rfl) (wp_let (wp_eq sF (wp_eq (a := (false, ())) (by rw [if_neg (by decide), sT]; rfl) ?_))))))
  rw [if_neg (by decide)]
  refine wp_eq (a := F) (by rw [f2]; rfl) (wp_eq (a := F) (by rw [f1]; rfl) (wp_let (wp_eq (a := T) (by rw [t1]; rfl) (wp_eq (a := T) (by rw [t2]; rfl) (wp_let (wp_grd (by rfl) ?_))))))
  refine wp_eq (forL_go fun x hx => ?_) (wp_boN (wp_grd (by rfl) (wp_bind (wp_forL (fun p (st : List Box × List Box) => (∀ j : Nat, p.length ≤ j → j < 3 → st.1[j]? = some T ∧ st.2[j]? = some F) ∧ st.1.length = 3 ∧ st.2.length = 3) ⟨?_, rfl, rfl⟩ ?_ ?_))))
  · obtain ⟨h0, h1⟩ := rngL_mem.mp hx
    have h1 : x < 3 := by simpa using h1
    refine wp_is (wp_bind (any3 (z := F) h0 h1 (wp_eq sF (wp_eq (a := (false, ())) ?_ ?_))))
    · rw [if_neg (by decide)]
      exact wp_is (wp_bind (any3 (z := T) h0 h1 (wp_eq sT (wp_some rfl))))
    · rw [if_neg (by decide)]; exact wp_some rfl
  · intro j _ hj
    match j, hj with
    | 0, _ => exact ⟨rfl, rfl⟩
    | 1, _ => exact ⟨rfl, rfl⟩
    | 2, _ => exact ⟨rfl, rfl⟩
  · rintro p x t ⟨S, L⟩ e ⟨hj, l1, l2⟩
    obtain ⟨ex, hp⟩ := rngL_split e
    dsimp only at hj l1 l2 ⊢
    have hp : p.length < 3 := hp
    obtain ⟨a1, a2⟩ := hj p.length (Nat.le_refl _) hp
    have ex : x.toNat = p.length := by omega
    refine wp_eq (ix_ok (by omega) (by omega)) (wp_eq (by rw [ex]; exact a2) (wp_eq eF (wp_eq (a := (false, S.set x.toNat T')) ?_ ?_)))
    · rw [if_neg (by simp), ix_ok (by omega) (by omega)]
      simp only [Option.bind_some]
      rw [ex, a1]
      simp only [Option.bind_some]
      rw [eT]; rfl
    · rw [if_neg (by simp)]
      refine wp_some ⟨fun j j1 j2 => ?_, by rw [List.length_set]; exact l1, by rw [List.length_set]; exact l2⟩
      rw [List.length_append, List.length_singleton] at j1
      obtain ⟨b1, b2⟩ := hj j (by omega) j2
      rw [List.getElem?_set_ne (by omega), List.getElem?_set_ne (by omega)]
      exact ⟨b1, b2⟩
  · rintro st _
    refine wp_boN (wp_eq (a := (false, ())) ?_ ?_)
    · rw [if_neg (by rw [deq_self hb.nd]; decide), gp (okNs fun k hk' => so k (hk k hk')), if_neg (by simp), gp (okD fun k hk' => so k (by rw [← h.ks]; exact hk'))]
      simp
    · rw [if_neg (by decide)]; exact wp_some rfl
theorem first_split {P : Str → Bool} : ∀ {L : List Str}, (∃ x ∈ L, P x = true) → ∃ p n t, L = p ++ n :: t ∧ (∀ k ∈ p, P k = false) ∧ P n = true
  | [], ⟨_, h, _⟩ => nomatch h
  | x :: L, ⟨y, hy, hp⟩ => by
    cases e : P x with
    | true => exact ⟨[], x, L, rfl, (fun _ h => nomatch h), e⟩
    | false =>
      rcases List.mem_cons.mp hy with z | z
      · rw [z, e] at hp; cases hp
      · obtain ⟨p, n, t, e1, e2, e3⟩ := first_split ⟨y, z, hp⟩
        exact ⟨x :: p, n, t, by rw [e1]; rfl, (fun k hk => by
          rcases List.mem_cons.mp hk with z | z
          · rw [z]; exact e
          · exact e2 k z), e3⟩
theorem told_ok (h : Do ns D) {p t : List Str} {n : Str} (hk : keys B = p ++ n :: t) (hp : ∀ k ∈ p, k ∈ ns) (hn : n ∉ ns) (b : Bool) : M_l_told_name b B D = some (some n) := by
  unfold M_l_told_name
  cases b with
  | true =>
    rw [if_pos rfl, trimmed_bad h hk hp hn]
    rfl
  | false =>
    rw [if_neg (by decide), filled_bad h hk hp hn]
    rfl
theorem insert_perm {L : List Str} {x : Str} {a : Nat} : ((L.take a ++ [x]) ++ L.drop a).Perm (x :: L) := by
  rw [List.append_assoc]
  refine List.perm_middle.trans ?_
  show (x :: (L.take a ++ L.drop a)).Perm _
  rw [List.take_append_drop]
theorem refused_ok {s : List Int} {S : List Str} {pool : List Int} (hs : Stm s) (h : Do ns D) (hb : BoxOk B) (hk : ∀ k ∈ keys B, k ∈ ns) (so : ∀ k ∈ ns, strOk k = true) (sS : ∀ k ∈ S, strOk k = true) (nS : (ns ++ S).Nodup) (hS : S.length = 2) : Wp (M_l_refused s B D S pool) fun r => r.1 = true := by
  have hz := sz
  have hln := h.ln
  have hbl : B.length ≤ ns.length := by rw [← keys_len]; exact sub_len hb.nd hk
  have hkl := keys_len B
  obtain ⟨nd1, nd2, nd3⟩ := List.nodup_append.mp nS
  unfold M_l_refused
  refine wp_let (wp_next hs (by decide) (by decide) fun r t r0 r1 ht => ?_)
  dsimp only
  rw [cut_take (by omega)]
  have hm : (S.take (1 + r).toNat).length = (1 + r).toNat := by rw [List.length_take, hS]; omega
  have hsub : ∀ k ∈ S.take (1 + r).toNat, k ∈ S := fun k hk => List.mem_of_mem_take hk
  refine wp_bind (wp_for (fun p (st : List Str × List Int) => st.1.Perm (keys B ++ p) ∧ Stm st.2) ⟨by rw [List.append_nil], ht⟩ ?_ ?_)
  · rintro p x q ⟨L, st⟩ e ⟨hL, hst⟩
    dsimp only at hL hst ⊢
    have hpl := len_split e
    have hLl := hL.length_eq
    rw [List.length_append] at hLl
    refine wp_next hst (by omega) (by omega) fun a t a0 a1 ht => wp_let ?_
    dsimp only
    rw [cut_take a0, cut_drop a0]
    have := List.length_take_le a.toNat L
    have := List.length_drop (i := a.toNat) (l := L)
    refine wp_grd (by rw [List.length_singleton]; omega) (wp_grd (by rw [List.length_append, List.length_singleton]; omega) (wp_let (wp_some ⟨?_, ht⟩)))
    refine insert_perm.trans ((List.Perm.cons x hL).trans ?_)
    rw [← List.append_assoc]
    exact (List.perm_append_singleton x _).symm
  · rintro ⟨L, st⟩ ⟨hL, hst⟩
    dsimp only at hL hst ⊢
    have hLl := hL.length_eq
    rw [List.length_append] at hLl
    have ndL : L.Nodup := hL.nodup_iff.mpr (List.nodup_append.mpr ⟨hb.nd, nd2.sublist (List.take_sublist _ _), fun a ha b hb e => nd3 a (hk a ha) b (hsub b hb) e⟩)
    have hin : ∀ k ∈ L, k ∈ ns ∨ k ∈ S := fun k hkL => (List.mem_append.mp (hL.mem_iff.mp hkL)).imp (hk k) (hsub k)
    have hex : ∃ x ∈ L, decide (x ∈ S) = true := by
      cases e : S.take (1 + r).toNat with
      | nil => rw [e] at hm; simp only [List.length_nil] at hm; omega
      | cons y ys =>
        have hy : y ∈ S.take (1 + r).toNat := by rw [e]; exact List.mem_cons_self
        exact ⟨y, hL.mem_iff.mpr (List.mem_append_right _ hy), decide_eq_true (hsub y hy)⟩
    obtain ⟨p, n, t2, eL, hp, hn⟩ := first_split hex
    have hp : ∀ k ∈ p, k ∉ S := fun k hk' => of_decide_eq_false (hp k hk')
    have hn : n ∈ S := of_decide_eq_true hn
    have hpn : ∀ k ∈ p, k ∈ ns := fun k hk' => (hin k (by rw [eL]; exact List.mem_append_left _ hk')).resolve_right (hp k hk')
    have hnn : n ∉ ns := fun z => nd3 n z n hn rfl
    have soL : ∀ k ∈ L, strOk k = true := fun k hk' => (hin k hk').elim (so k) (sS k)
    refine wp_let (wp_bind (wp_for (fun q (u : Box × List Int) => keys u.1 = q ∧ Stm u.2) ⟨rfl, hst⟩ ?_ ?_))
    · rintro q x t ⟨C, u⟩ e ⟨hC, hu⟩
      dsimp only at hC hu ⊢
      have hql := len_split e
      have hCl := keys_len C
      rw [hC] at hCl
      have hxq := nd_split ndL e
      have hput : ∀ y : List Int, keys (dput C x y) = q ++ [x] := fun y => by rw [keys_put_new (by rw [hC]; exact hxq), hC]
      refine wp_bind (wp_mono (Q := fun u : Box × List Int => keys u.1 = q ++ [x] ∧ Stm u.2) (wp_if (fun z => ?_) fun z => ?_) fun u hu => wp_some hu)
      · obtain ⟨y, ey⟩ := dget_some (dhas_iff.mp z)
        exact wp_eq ey (wp_grd (by omega) (wp_some ⟨hput y, hu⟩))
      · exact wp_bind (wp_mono (part_wp hu) fun y hy => wp_grd (by omega) (wp_some ⟨hput _, hy.2⟩))
    · rintro ⟨C, u⟩ ⟨hC, hu⟩
      dsimp only at hC hu ⊢
      have hCl := keys_len C
      rw [hC] at hCl
      have ndC : (keys C).Nodup := by rw [hC]; exact ndL
      refine wp_let (wp_eq (copied_ok ndC (by omega)) (wp_let (wp_let ?_)))
      rw [cpD, List.map_id']
      have hf : L.filter (fun x => decide (x ∈ S)) = n :: t2.filter (fun x => decide (x ∈ S)) := by
        rw [eL, List.filter_append, List.filter_cons_of_pos (by simp [hn]), List.filter_eq_nil_iff.mpr fun k hk' => by simp [hp k hk'], List.nil_append]
      rw [hf]
      refine wp_eq (forL_go fun x _ => ?_) (wp_boN ?_)
      · refine wp_is (wp_eq (told_ok h (by rw [hC]; exact eL) hpn hnn x) (wp_let (wp_eq (a := (false, ())) ?_ ?_)))
        · rw [if_neg (by simp [oSel]), show atI (n :: t2.filter fun x => decide (x ∈ S)) (0 : Int) = some n from by rw [atI_get (by decide) (by simp)]; rfl]
          simp
        · rw [if_neg (by decide)]; exact wp_some rfl
      · rw [deq_self ndC, if_pos rfl, show C.map Prod.fst = L from hC, gp (okNs soL), if_pos (by simp), gp (okD fun k hk' => so k (by rw [← h.ks]; exact hk'))]
        exact wp_some (by simp)
end
theorem listed_wp {s : List Int} {ns : List Str} (hs : Stm s) (nd : ns.Nodup) (hl : ns.length ≤ 20) : Wp (M_l_listed s ns) fun r => (r.1.Nodup ∧ ∀ k ∈ r.1, k ∈ ns) ∧ Stm r.2 := by
  have hz := sz
  unfold M_l_listed
  refine wp_let (wp_let (wp_grd (rg_lt (by omega) (by omega)) (wp_bind (wp_for (fun p (st : List Str × List Str × List Int) => (st.2.1 ++ st.1).Nodup ∧ (∀ k ∈ st.2.1 ++ st.1, k ∈ ns) ∧ st.1.length + p.length = ns.length ∧ st.2.1.length ≤ p.length ∧ Stm st.2.2) ⟨nd, (fun _ h => h), by simp, Nat.le_refl _, hs⟩ ?_ ?_))))
  · rintro p x q ⟨R, L, st⟩ e ⟨h1, h2, h3, h4, hst⟩
    obtain ⟨ex, hp⟩ := rngL_split e
    dsimp only at h1 h2 h3 h4 hst ⊢
    refine wp_next hst (by omega) (by omega) fun a t a0 a1 ht => wp_let (wp_next ht (by decide) (by decide) fun b t _ _ ht => ?_)
    dsimp only
    rw [cut_take a0, cut_drop (by omega)]
    have hal : a.toNat < R.length := by omega
    have eR : R = R.take a.toNat ++ R[a.toNat] :: R.drop (a.toNat + 1) := by rw [← List.drop_eq_getElem_cons hal, List.take_append_drop]
    have ea : (a + 1).toNat = a.toNat + 1 := by omega
    rw [ea]
    have lt := List.length_take_of_le (Nat.le_of_lt hal)
    have ld := List.length_drop (i := a.toNat + 1) (l := R)
    have pm : (L ++ R).Perm ((L ++ [R[a.toNat]]) ++ (R.take a.toNat ++ R.drop (a.toNat + 1))) := by
      rw [List.append_assoc]
      refine List.Perm.append_left L ?_
      conv => lhs; rw [eR]
      exact List.perm_middle
    have sb : (L ++ (R.take a.toNat ++ R.drop (a.toNat + 1))).Sublist (L ++ R) := by
      conv => rhs; rw [eR]
      exact (List.Sublist.refl L).append ((List.Sublist.refl _).append (List.sublist_cons_self _ _))
    refine wp_bind (wp_mono (Q := fun u : List Str × List Int => ((u.1 ++ (R.take a.toNat ++ R.drop (a.toNat + 1))).Nodup ∧ (∀ k ∈ u.1 ++ (R.take a.toNat ++ R.drop (a.toNat + 1)), k ∈ ns) ∧ u.1.length ≤ (p ++ [x]).length) ∧ Stm u.2) (wp_if (fun _ => ?_) fun _ => ?_) fun u hu => wp_grd (by rw [lt, ld]; omega) (wp_let (wp_some ⟨hu.1.1, hu.1.2.1, ?_, hu.1.2.2, hu.2⟩)))
    · refine wp_eq (atI_get a0 hal) ?_
      refine wp_grd (by omega) (wp_some ⟨⟨pm.nodup_iff.mp h1, fun k hk => h2 k (pm.mem_iff.mpr hk), ?_⟩, ht⟩)
      rw [List.length_append, List.length_append, List.length_singleton, List.length_singleton]; omega
    · exact wp_some ⟨⟨h1.sublist sb, fun k hk => h2 k (sb.subset hk), by rw [List.length_append]; dsimp only; omega⟩, ht⟩
    · rw [List.length_append, List.length_append, lt, ld, List.length_singleton]; omega
  · rintro ⟨R, L, st⟩ ⟨h1, h2, h3, h4, hst⟩
    exact wp_some ⟨⟨(List.nodup_append.mp h1).1, fun k hk => h2 k (List.mem_append_left _ hk)⟩, hst⟩
theorem comp_sub {f : Int → List Int → Option (Option Int × List Int)} {xs : List Int} {s : List Int} (hs : Stm s) (hf : ∀ x s, Stm s → Wp (f x s) fun r => (r.1 = none ∨ r.1 = some x) ∧ Stm r.2) : Wp (compM xs s f) fun r => r.1.Sublist xs ∧ Stm r.2 := by
  refine wp_compM (fun p o s => o.Sublist p ∧ Stm s) (pre := []) (out := []) ⟨List.Sublist.refl _, hs⟩ ?_ fun r h => h
  rintro p x t o s e ⟨ho, hst⟩
  refine wp_mono (hf x s hst) fun r hr => ⟨?_, hr.2⟩
  rcases hr.1 with z | z
  · rw [z]
    show (o ++ []).Sublist _
    exact ho.append (List.nil_sublist _)
  · rw [z]
    exact ho.append (List.Sublist.refl _)
theorem drawn_side_wp {s side pool : List Int} (hs : Stm s) (h1 : side.Pairwise (· < ·)) (h2 : side.length ≤ 20) (p1 : pool.Pairwise (· < ·)) (p2 : 0 < pool.length) (p3 : pool.length ≤ 20) : Wp (M_l_drawn_side s side pool) fun r => Side r.1 ∧ Stm r.2 := by
  have hz := sz
  unfold M_l_drawn_side
  refine wp_next hs (by decide) (by decide) fun w t _ _ ht => wp_let (wp_if (fun _ => wp_some ⟨⟨h1, by dsimp only; omega⟩, ht⟩) fun _ => wp_if (fun _ => wp_some ⟨Side.nil, ht⟩) fun _ => ?_)
  have nl : pool ≠ [] := List.length_pos_iff.mp p2
  obtain ⟨y, ys, e0⟩ := List.exists_cons_of_ne_nil nl
  obtain ⟨zs, z, e1⟩ : ∃ zs z, pool = zs ++ [z] := ⟨pool.dropLast, pool.getLast nl, (List.dropLast_concat_getLast nl).symm⟩
  have a0 : atI pool (0 : Int) = some y := by rw [e0, atI_get (by decide) (by simp)]; rfl
  have a1 : atI pool (-(1 : Int)) = some z := by rw [e1]; exact atI_last
  have lo : ∀ v ∈ pool, y ≤ v := fun v hv => by
    rw [e0] at hv p1
    rcases List.mem_cons.mp hv with q | q
    · omega
    · have := (List.pairwise_cons.mp p1).1 v q; omega
  have hi : ∀ v ∈ pool, v ≤ z := fun v hv => by
    rw [e1] at hv p1
    rcases List.mem_append.mp hv with q | q
    · have := (List.pairwise_append.mp p1).2.2 v q z (List.mem_singleton.mpr rfl); omega
    · rw [List.mem_singleton.mp q]; exact Int.le_refl _
  have hyp : y ∈ pool := by rw [e0]; exact List.mem_cons_self
  have hzp : z ∈ pool := by rw [e1]; simp
  have wide : ((([(y - (2 : Int))]) ++ pool) ++ ([(z + (2 : Int))])).Pairwise (· < ·) := by
    refine List.pairwise_append.mpr ⟨List.pairwise_append.mpr ⟨List.pairwise_singleton _ _, p1, fun v hv w hw => ?_⟩, List.pairwise_singleton _ _, fun v hv w hw => ?_⟩
    · rw [List.mem_singleton.mp hv]
      have := lo w hw; omega
    · rw [List.mem_singleton.mp hw]
      rcases List.mem_append.mp hv with q | q
      · rw [List.mem_singleton.mp q]
        have := lo z hzp; omega
      · have := hi v q; omega
  have wl : ((([(y - (2 : Int))]) ++ pool) ++ ([(z + (2 : Int))])).length ≤ 22 := by rw [List.length_append, List.length_append, List.length_singleton, List.length_singleton]; omega
  have fin : ∀ o : List Int, o.Sublist ((([(y - (2 : Int))]) ++ pool) ++ ([(z + (2 : Int))])) → Side o := fun o ho => ⟨wide.sublist ho, by have := ho.length_le; omega⟩
  refine wp_eq a0 (wp_grd (by rw [List.length_singleton]; omega) (wp_eq a1 (wp_grd (by rw [List.length_append, List.length_singleton, List.length_singleton]; omega) (wp_let (wp_if (fun _ => ?_) fun _ => ?_)))))
  · refine wp_bind (wp_mono (comp_sub ht fun x s hs => ?_) fun r hr => wp_some ⟨fin _ hr.1, hr.2⟩)
    refine wp_bind (wp_mono (Q := fun c : Bool × List Int => Stm c.2) (wp_if (fun _ => wp_some hs) fun _ => wp_next hs (by decide) (by decide) fun a t _ _ ht => wp_some ht) fun c hc => wp_if (fun _ => wp_some ⟨.inr rfl, hc⟩) fun _ => wp_some ⟨.inl rfl, hc⟩)
  · exact wp_bind (wp_mono (comp_sub ht fun x s hs => wp_next hs (by decide) (by decide) fun a t _ _ ht => wp_if (fun _ => wp_some ⟨.inr rfl, ht⟩) fun _ => wp_some ⟨.inl rfl, ht⟩) fun r hr => wp_some ⟨fin _ hr.1, hr.2⟩)
theorem idx_at : ∀ {ns : List Str} {i : Nat} {x : Str}, ns.Nodup → ns[i]? = some x → idx? x ns = some i
  | [], _, _, _, h => by simp at h
  | y :: ns, 0, x, _, h => by
    have h : y = x := by simpa using h
    unfold idx?
    rw [if_pos h]
  | y :: ns, i + 1, x, nd, h => by
    obtain ⟨n1, n2⟩ := List.nodup_cons.mp nd
    have h : ns[i]? = some x := by simpa using h
    unfold idx?
    rw [if_neg (fun e => n1 (by rw [e]; exact List.mem_of_getElem? h)), idx_at n2 h]
    rfl
theorem law_ok (xs : List Int) : M_law xs = some true := by
  have hz := sz
  apply wp_is
  unfold M_law
  refine wp_stream (by decide) fun s hs => wp_let (wp_next hs (by decide) (by decide) fun a t a0 a1 ht => wp_bind (wp_mono (pool_lt ht (by omega) (by omega)) fun p ⟨pl, plt, ht⟩ => wp_let (wp_next ht (by decide) (by decide) fun c t c0 c1 ht => wp_let (wp_bind (wp_mono (names_wp ht (by omega) (by omega)) fun nn ⟨hn, ht⟩ => wp_let ?_)))))
  obtain ⟨pool, u⟩ := p
  obtain ⟨nm, u2⟩ := nn
  dsimp only at pl plt hn ht ⊢
  have hnl := hn.ln
  rw [cut_take c0, cut_drop c0]
  have tl : (nm.take c.toNat).length = c.toNat := by rw [List.length_take]; omega
  have ndt : (nm.take c.toNat).Nodup := hn.nd.sublist (List.take_sublist _ _)
  refine wp_bind (wp_mono (domains_wp ht plt (by omega) (by omega) (by omega) (by decide)) fun r ⟨hd, ht⟩ => wp_let ?_)
  obtain ⟨D0, u3⟩ := r
  dsimp only at hd ht ⊢
  have hdl : D0.length = c.toNat := by rw [← tl, ← hd.ks, List.length_map]
  refine wp_bind (wp_mono (Q := fun z : Bool × List Int => (z.1 = true → 0 < c) ∧ Stm z.2) (wp_if (fun z => wp_next ht (by decide) (by decide) fun b t _ _ ht => wp_some ⟨fun _ => of_decide_eq_true z, ht⟩) fun _ => wp_some ⟨(fun h => nomatch h), ht⟩) fun z ⟨z1, ht⟩ => wp_bind (wp_mono (Q := fun r : Box × List Int => Do (nm.take c.toNat) r.1 ∧ r.1.length = c.toNat) (wp_if (fun z2 => ?_) fun _ => wp_some ⟨⟨hd.ks, ndt, hd.up, by omega⟩, hdl⟩) fun r ⟨hD, hDl⟩ => ?_))
  · have hc := z1 z2
    refine wp_next ht hc (by omega) fun b t b0 b1 ht => wp_let (wp_bind (wp_at b0 (by dsimp only; omega) fun d hdm hde => ?_))
    dsimp only at hde ⊢
    refine wp_eq (ix_ok b0 (by omega)) (wp_some ⟨⟨?_, ndt, fun q hq => ?_, by omega⟩, ?_⟩)
    · dsimp only
      rw [ix_ok b0 (by omega), Option.getD_some, List.map_set, hd.ks]
      rw [← hd.ks, set_self' (by rw [List.getElem?_map, hde]; rfl)]
    · rcases List.mem_or_eq_of_mem_set hq with hq | hq
      · exact hd.up q hq
      · rw [hq]; exact ⟨List.Pairwise.nil, Nat.zero_le _⟩
    · dsimp only
      rw [List.length_set]; exact hdl
  obtain ⟨D, u4⟩ := r
  dsimp only at hD hDl ⊢
  refine wp_stream (by decide) fun s hs => wp_let (wp_let (wp_bind (wp_mono (listed_wp hs ndt (by omega)) fun r ⟨⟨l1, l2⟩, ht⟩ => ?_)))
  obtain ⟨L, u5⟩ := r
  dsimp only at l1 l2 ht ⊢
  have hLl := sub_len l1 l2
  refine wp_bind (wp_for (fun p (st : Box × List Int) => BoxOk st.1 ∧ (∀ k ∈ keys st.1, k ∈ p) ∧ Stm st.2) ⟨BoxOk.nil, (fun _ h => nomatch h), ht⟩ ?_ ?_)
  · rintro p k t ⟨b, st⟩ e ⟨hb, hk, hst⟩
    dsimp only at hb hk hst ⊢
    have hpl := len_split e
    have hbl := sub_len hb.nd hk
    rw [keys_len] at hbl
    obtain ⟨i, hi⟩ := List.mem_iff_getElem?.mp (l2 k (mem_split e))
    have hil := (List.getElem?_eq_some_iff.mp hi).1
    rw [List.getElem?_take_of_lt (by omega)] at hi
    refine wp_eq (idx_at hn.nd hi) (wp_bind (wp_at (by omega) (by omega) fun d hdm _ => ?_))
    obtain ⟨d1, d2⟩ := hD.up d hdm
    refine wp_bind (wp_mono (drawn_side_wp hst d1 d2 plt (by omega) (by omega)) fun r hr => wp_grd (by omega) (wp_some ⟨hb.put hr.1, fun j hj => ?_, hr.2⟩))
    rcases mem_keys_put.mp hj with z | z
    · exact List.mem_append_left _ (hk j z)
    · rw [z]; simp
  · rintro ⟨B, st⟩ ⟨hb, hk, hst⟩
    dsimp only at hb hk hst ⊢
    have hk : ∀ k ∈ keys B, k ∈ nm.take c.toNat := fun k h => l2 k (hk k h)
    have so : ∀ k ∈ nm.take c.toNat, strOk k = true := fun k h => hn.ok k (List.mem_of_mem_take h)
    refine wp_eq (formed_ok hD hb hk so) ?_
    rw [if_neg (by decide)]
    refine wp_next hst (by decide) (by decide) fun a t _ _ ht => wp_if (fun _ => wp_some rfl) fun _ => wp_bind (wp_mono (refused_ok ht hD hb hk so (fun k h => hn.ok k (List.mem_of_mem_drop h)) (by rw [List.take_append_drop]; exact hn.nd) (by rw [List.length_drop]; omega)) fun r hr => wp_some hr)
end My
end
section
set_option maxHeartbeats 0
namespace My
open PySem PySem.Spec PyProof.Rows L2 L3
theorem tx_UnknownName : XTx (PySem.Challenge.rw_curbdesk_k02_filled_and_trimmed).prog x_UnknownName := ⟨by decide, by rfl, ⟨_, _, _, _, _, _, _, _, _, _, rfl, .cons (by decide) (.nil), rfl, rfl, rfl⟩, rfl, rfl, rfl, by decide +kernel, rfl, rfl, rfl, by decide +kernel, by decide, fun _ _ _ _ _ _ us hl => match us, hl with | [_, _], _ => rfl⟩
theorem facts {w : World} {K : PySem.W.Frag} {h : Heap} {mg : Str → Option Value} {f : Addr} (X : K.In h) (G : h.Ns mainGlobals mg) (hfa : mg ("law" : Str) = some (.ref f)) (cx : SaysX R.prog fa fn xs rsL csL K) :
    ∃ fd : FuncData, (∀ (s : Shared) (v : Value), BindsTo s fd ⟨[v], []⟩ [("_law_script", v)]) ∧ ∀ base : Heap, K.In base → base.Ns mainGlobals mg → FnOk R.prog w K mg base CX0 6 f fd ["_law_script"] (Sp_S K M_law) := by
  have c := cx.d
  obtain ⟨fd_common, F_common⟩ := c.def_ 0 (d := d_common) rfl
  obtain ⟨fd_filled, F_filled⟩ := c.def_ 1 (d := d_filled) rfl
  obtain ⟨fd_trimmed, F_trimmed⟩ := c.def_ 2 (d := d_trimmed) rfl
  obtain ⟨fd__law_is_integer, F__law_is_integer⟩ := c.def_ 3 (d := d__law_is_integer) rfl
  obtain ⟨fd__law_stream, F__law_stream⟩ := c.def_ 4 (d := d__law_stream) rfl
  obtain ⟨fd__law_next, F__law_next⟩ := c.def_ 5 (d := d__law_next) rfl
  obtain ⟨fd__law_names, F__law_names⟩ := c.def_ 6 (d := d__law_names) rfl
  obtain ⟨fd__law_pool, F__law_pool⟩ := c.def_ 7 (d := d__law_pool) rfl
  obtain ⟨fd__law_domains, F__law_domains⟩ := c.def_ 8 (d := d__law_domains) rfl
  obtain ⟨fd__law_part, F__law_part⟩ := c.def_ 9 (d := d__law_part) rfl
  obtain ⟨fd__law_is_side, F__law_is_side⟩ := c.def_ 10 (d := d__law_is_side) rfl
  obtain ⟨fd__law_same_sides, F__law_same_sides⟩ := c.def_ 11 (d := d__law_same_sides) rfl
  obtain ⟨fd__law_listed, F__law_listed⟩ := c.def_ 12 (d := d__law_listed) rfl
  obtain ⟨fd__law_drawn_side, F__law_drawn_side⟩ := c.def_ 13 (d := d__law_drawn_side) rfl
  obtain ⟨fd__law_full, F__law_full⟩ := c.def_ 14 (d := d__law_full) rfl
  obtain ⟨fd__law_slim, F__law_slim⟩ := c.def_ 15 (d := d__law_slim) rfl
  obtain ⟨fd__law_copied, F__law_copied⟩ := c.def_ 16 (d := d__law_copied) rfl
  obtain ⟨fd__law_new, F__law_new⟩ := c.def_ 17 (d := d__law_new) rfl
  obtain ⟨fd__law_formed, F__law_formed⟩ := c.def_ 18 (d := d__law_formed) rfl
  obtain ⟨fd__law_told_name, F__law_told_name⟩ := c.def_ 19 (d := d__law_told_name) rfl
  obtain ⟨fd__law_refused, F__law_refused⟩ := c.def_ 20 (d := d__law_refused) rfl
  obtain ⟨fd_law, F_law⟩ := c.def_ 21 (d := d_law) rfl
  have e := hfa.symm.trans (He.glo_ok X G (c.fact 21 (f := .glo "law") rfl))
  cases e
  have b := FunD.bindsA (ps := ["_law_script"]) F_law fun _ _ _ _ _ _ us hl => match us, hl with | [_], _ => rfl
  have gl : ∀ x ∈ rsL, mg x = some (.ref (He.ga K x)) := by
    intro x hx
    simp only [rsL, List.mem_cons, List.not_mem_nil, or_false] at hx
    rcases hx with rfl
    · exact He.glo_ok X G (c.fact 22 (f := .glo "UnknownName") rfl)
  have xc : ∀ x ∈ rsL, XcT R.prog K mg x := by
    intro x hx
    simp only [rsL, List.mem_cons, List.not_mem_nil, or_false] at hx
    rcases hx with rfl
    · exact cx.xc 0 (d := x_UnknownName) rfl tx_UnknownName (gl _ (by decide +kernel)) rfl
  have gc : ∀ y ∈ csL, y = "ValueError" ∧ mg y = none ∨ y ≠ "ValueError" ∧ mg y = some (.ref (He.ga K y)) := by
    intro y hy
    simp only [csL, List.mem_cons, List.not_mem_nil, or_false] at hy
    rcases hy with rfl | rfl | rfl | rfl | rfl | rfl | rfl | rfl | rfl | rfl | rfl | rfl | rfl | rfl | rfl | rfl | rfl | rfl | rfl | rfl | rfl | rfl | rfl | rfl | rfl | rfl
    · exact .inr ⟨by decide, He.glo_ok X G (c.fact 22 (f := .glo "UnknownName") rfl)⟩
    · exact .inr ⟨by decide, He.glo_ok X G (c.fact 23 (f := .glo "RepeatedName") rfl)⟩
    · exact .inr ⟨by decide, He.glo_ok X G (c.fact 24 (f := .glo "UnknownValue") rfl)⟩
    · exact .inr ⟨by decide, He.glo_ok X G (c.fact 25 (f := .glo "RepeatedValue") rfl)⟩
    · exact .inr ⟨by decide, He.glo_ok X G (c.fact 26 (f := .glo "UnknownKey") rfl)⟩
    · exact .inr ⟨by decide, He.glo_ok X G (c.fact 27 (f := .glo "RepeatedKey") rfl)⟩
    · exact .inr ⟨by decide, He.glo_ok X G (c.fact 28 (f := .glo "EmptyRule") rfl)⟩
    · exact .inr ⟨by decide, He.glo_ok X G (c.fact 29 (f := .glo "BadRow") rfl)⟩
    · exact .inr ⟨by decide, He.glo_ok X G (c.fact 30 (f := .glo "BadBounds") rfl)⟩
    · exact .inr ⟨by decide, He.glo_ok X G (c.fact 31 (f := .glo "BadNumber") rfl)⟩
    · exact .inr ⟨by decide, He.glo_ok X G (c.fact 32 (f := .glo "BadStep") rfl)⟩
    · exact .inr ⟨by decide, He.glo_ok X G (c.fact 33 (f := .glo "NoMark") rfl)⟩
    · exact .inr ⟨by decide, He.glo_ok X G (c.fact 34 (f := .glo "NotStruck") rfl)⟩
    · exact .inr ⟨by decide, He.glo_ok X G (c.fact 35 (f := .glo "BadOrder") rfl)⟩
    · exact .inr ⟨by decide, He.glo_ok X G (c.fact 36 (f := .glo "NotBare") rfl)⟩
    · exact .inr ⟨by decide, He.glo_ok X G (c.fact 37 (f := .glo "NoClash") rfl)⟩
    · exact .inr ⟨by decide, He.glo_ok X G (c.fact 38 (f := .glo "HoldsAnswer") rfl)⟩
    · exact .inr ⟨by decide, He.glo_ok X G (c.fact 39 (f := .glo "BadLine") rfl)⟩
    · exact .inr ⟨by decide, He.glo_ok X G (c.fact 40 (f := .glo "UnknownLine") rfl)⟩
    · exact .inr ⟨by decide, He.glo_ok X G (c.fact 41 (f := .glo "BadText") rfl)⟩
    · exact .inr ⟨by decide, He.glo_ok X G (c.fact 42 (f := .glo "NothingToUndo") rfl)⟩
    · exact .inr ⟨by decide, He.glo_ok X G (c.fact 43 (f := .glo "NothingToRedo") rfl)⟩
    · exact .inr ⟨by decide, He.glo_ok X G (c.fact 44 (f := .glo "UnknownStep") rfl)⟩
    · exact .inr ⟨by decide, He.glo_ok X G (c.fact 45 (f := .glo "BadDeed") rfl)⟩
    · exact .inr ⟨by decide, He.glo_ok X G (c.fact 46 (f := .glo "DeskError") rfl)⟩
    · exact .inl ⟨rfl, He.free_ok X G (c.fact 47 (f := .free "ValueError") rfl)⟩
  have xt : XsT R.prog K mg rsL csL := cx.xst (He.free_ok X G (c.fact 57 (f := .free "super") rfl)) xc gl gc
  have C : Ev R.prog K mg := ⟨xt, ⟨_, fd_common, F_common, He.glo_ok X G (c.fact 0 (f := .glo "common") rfl)⟩, ⟨_, fd_filled, F_filled, He.glo_ok X G (c.fact 1 (f := .glo "filled") rfl)⟩, ⟨_, fd_trimmed, F_trimmed, He.glo_ok X G (c.fact 2 (f := .glo "trimmed") rfl)⟩, ⟨_, fd__law_is_integer, F__law_is_integer, He.glo_ok X G (c.fact 3 (f := .glo "_law_is_integer") rfl)⟩, ⟨_, fd__law_stream, F__law_stream, He.glo_ok X G (c.fact 4 (f := .glo "_law_stream") rfl)⟩, ⟨_, fd__law_next, F__law_next, He.glo_ok X G (c.fact 5 (f := .glo "_law_next") rfl)⟩, ⟨_, fd__law_names, F__law_names, He.glo_ok X G (c.fact 6 (f := .glo "_law_names") rfl)⟩, ⟨_, fd__law_pool, F__law_pool, He.glo_ok X G (c.fact 7 (f := .glo "_law_pool") rfl)⟩, ⟨_, fd__law_domains, F__law_domains, He.glo_ok X G (c.fact 8 (f := .glo "_law_domains") rfl)⟩, ⟨_, fd__law_part, F__law_part, He.glo_ok X G (c.fact 9 (f := .glo "_law_part") rfl)⟩, ⟨_, fd__law_is_side, F__law_is_side, He.glo_ok X G (c.fact 10 (f := .glo "_law_is_side") rfl)⟩, ⟨_, fd__law_same_sides, F__law_same_sides, He.glo_ok X G (c.fact 11 (f := .glo "_law_same_sides") rfl)⟩, ⟨_, fd__law_listed, F__law_listed, He.glo_ok X G (c.fact 12 (f := .glo "_law_listed") rfl)⟩, ⟨_, fd__law_drawn_side, F__law_drawn_side, He.glo_ok X G (c.fact 13 (f := .glo "_law_drawn_side") rfl)⟩, ⟨_, fd__law_full, F__law_full, He.glo_ok X G (c.fact 14 (f := .glo "_law_full") rfl)⟩, ⟨_, fd__law_slim, F__law_slim, He.glo_ok X G (c.fact 15 (f := .glo "_law_slim") rfl)⟩, ⟨_, fd__law_copied, F__law_copied, He.glo_ok X G (c.fact 16 (f := .glo "_law_copied") rfl)⟩, ⟨_, fd__law_new, F__law_new, He.glo_ok X G (c.fact 17 (f := .glo "_law_new") rfl)⟩, ⟨_, fd__law_formed, F__law_formed, He.glo_ok X G (c.fact 18 (f := .glo "_law_formed") rfl)⟩, ⟨_, fd__law_told_name, F__law_told_name, He.glo_ok X G (c.fact 19 (f := .glo "_law_told_name") rfl)⟩, ⟨_, fd__law_refused, F__law_refused, He.glo_ok X G (c.fact 20 (f := .glo "_law_refused") rfl)⟩, He.free_ok X G (c.fact 47 (f := .free "ValueError") rfl), He.free_ok X G (c.fact 48 (f := .free "all") rfl), He.free_ok X G (c.fact 49 (f := .free "bool") rfl), He.free_ok X G (c.fact 50 (f := .free "dict") rfl), He.free_ok X G (c.fact 51 (f := .free "int") rfl), He.free_ok X G (c.fact 52 (f := .free "isinstance") rfl), He.free_ok X G (c.fact 53 (f := .free "len") rfl), He.free_ok X G (c.fact 54 (f := .free "list") rfl), He.free_ok X G (c.fact 55 (f := .free "range") rfl), He.free_ok X G (c.fact 56 (f := .free "str") rfl), He.free_ok X G (c.fact 57 (f := .free "super") rfl)⟩
  exact ⟨fd_law, fun s v => b s [v] rfl, fun base _ _ => ok_law C F_law⟩
end My
end
set_option maxHeartbeats 0
open PySem PySem.W PySem.Calls PyProof.Rows
theorem PySem.Challenge.cw_curbdesk_k02_filled_and_trimmed_holds : PySem.Challenge.rw_curbdesk_k02_filled_and_trimmed.Holds := by
  w_on; o_law
  refine HandSHeadRun.head_any (r := OpenLaw.row PySem.Challenge.rw_curbdesk_k02_filled_and_trimmed) (q := view (OpenLaw.row PySem.Challenge.rw_curbdesk_k02_filled_and_trimmed).prog [50]) (H := My.hk) (ob := My.ob) (M := 30000) (loose := My.loose) (d := HandSHeadRun.topDef (OpenLaw.row PySem.Challenge.rw_curbdesk_k02_filled_and_trimmed).prog 50) (kwd := []) My.ob_eq
    (by kernel_rfl) (fun s => by kernel_rfl) My.run (by kernel_rfl) (by kernel_rfl) (by kernel_rfl) (by rfl) (by first | assumption | decide +kernel) (by decide +kernel) ⟨rfl, rfl, rfl, rfl, rfl, by decide +kernel⟩ ?hw ?hc
  case hw => w_witness2
  case hc =>
    refine L2.walk_ofE (l := PySem.Challenge.rw_curbdesk_k02_filled_and_trimmed) (n := 63) (k := 6) (x := "_law_script") (CX := L2.CX0) rfl (by decide) (by kernel_rfl) ⟨rfl, by decide, by decide⟩ ?F (fun _ _ _ _ z => z)
    intro w mg fa h Y G hmg0
    obtain ⟨K, KX, c⟩ := Y
    have hmg : mg ("law" : PySem.Str) = some (.ref fa) := by
      have e : (HandSHeadRun.topDef (OpenLaw.row PySem.Challenge.rw_curbdesk_k02_filled_and_trimmed).prog 50).name = ("law" : PySem.Str) := by kernel_rfl
      rw [← e]
      exact hmg0
    obtain ⟨fd, hb, hF⟩ := My.facts (w := w) KX G hmg c
    exact ⟨K, fd, L3.Sp_S K My.M_law, KX, hb, fun H a ns hl _ hS => ⟨a, ns, rfl, Nat.le_trans hl (by decide), hS, true, My.law_ok ns, fun _ => rfl⟩, hF⟩
