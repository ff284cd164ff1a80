import PyProof.Rows.All
import Wide.All
import OpenK.AllK
import Wide.FinOn
import KE.KStateDown
import HandS.ForMost
import HandS.Flow
import HandS.Style
import HandS.IsInst
import HandS.Strs
import HandS.SortInts
import HandS.Defaults
import HandS.MakeKwOnly
import HandS.SetFor
import HandS.More
import HandS.Finally
import HandS.DictComp
import HandS.DictEq
import HandS.DeepEq
import HandS.Iter
import HandS.ListEq
import PyProof.NeKinds
import HandS.ExcInit
import KE.KExcSuper
import HandS.ForExc
import HandS.ExcField
import HandS.ExcIs
import KE.KExcIs
import HandS.Wide
import HandS.Exc
import HandS.HeadHook1
import HandS.HeadHook2
import KE.KEqNest
import HandS.Deep
import HandS.Property
import HandS.TupAny
import HandS.Zip
import HandS.Conv
import HandS.Sort
import KE.DatumOrd
import PyProof.P3In
import PyProof.Rows.RowBridgeK
import PyProof.Draws
import HandS.Zip0
import HandS.MakeKw
import HandS.Rev
import HandS.HotCalls
import KE.DataCmp
import HandS.TupSets
import HandS.TupLe
import HandS.Head0
import HandS.Head1
import HandS.Head2
import HandS.HeadEnd
import PySem.Challenge.RW_curbdesk_k46_rests_on
set_option Elab.async false
set_option linter.all false
set_option maxRecDepth 100000
section
set_option maxHeartbeats 4000000
namespace L3
open PySem PySem.Spec PyProof.Rows L2
abbrev SS := L2.St
def Pst : HO → Prop
  | .frz _ _ => True
  | .tup _ => True
  | .xd _ => True
  | _ => False
def Fzs (H H' : Hp) : Prop := ∀ a o, Pst o → H a = some o → H' a = some o
theorem Fzs.trans {H H1 H2 : Hp} (a : Fzs H H1) (b : Fzs H1 H2) : Fzs H H2 := fun x o p h => b x o p (a x o p h)
def Gr (H H' : Hp) : Prop := ∀ a o, H a = some o → H' a = some o
theorem Gr.trans {H H1 H2 : Hp} (a : Gr H H1) (b : Gr H1 H2) : Gr H H2 := fun x o h => b x o (a x o h)
theorem Gr.new {H : Hp} {p : Addr} {o : HO} (h : H p = none) : Gr H (upd H p o) := fun a u e => by
  rw [upd_ne (ne_of_none e h)]; exact e
theorem Mut.npst {o : HO} (m : Mut (some o)) : ¬ Pst o := by
  cases o <;> first | exact fun z => z | exact fun _ => m
structure Pd where
  pr : Hp → V → Prop
  mono : ∀ {H H' : Hp} {v : V}, Fzs H H' → pr H v → pr H' v
def pInt (i : Int) : Pd := ⟨fun _ v => v = .int i, fun _ h => h⟩
def pStr (x : Str) : Pd := ⟨fun _ v => v = .str x, fun _ h => h⟩
theorem paired_mono {α β : Type} {P Q : α → β → Prop} : ∀ {l₁ : List α} {l₂ : List β}, (∀ a b, P a b → Q a b) → Paired P l₁ l₂ → Paired Q l₁ l₂
  | _, _, _, .nil => .nil
  | _, _, f, .cons r t => .cons (f _ _ r) (paired_mono f t)
def pL {α : Type} (E : α → Pd) (xs : List α) : Pd where
  pr H v := ∃ a o vs, v = .ref a ∧ H a = some (.frz o (.lst vs)) ∧ xs.length ≤ sizeLine ∧ Paired (fun x u => (E x).pr H u) xs vs
  mono := fun f ⟨a, o, vs, e, h, z, p⟩ => ⟨a, o, vs, e, f _ _ trivial h, z, paired_mono (fun x _ => (E x).mono f) p⟩
def pTL {α : Type} (E : α → Pd) (xs : List α) : Pd where
  pr H v := ∃ a vs, v = .ref a ∧ H a = some (.tup vs) ∧ xs.length ≤ sizeLine ∧ Paired (fun x u => (E x).pr H u) xs vs
  mono := fun f ⟨a, vs, e, h, z, p⟩ => ⟨a, vs, e, f _ _ trivial h, z, paired_mono (fun x _ => (E x).mono f) p⟩
def tLk : List Addr → (Hp → Prop) → Hp → Prop
  | [], Φ, H => Φ H
  | d :: G, Φ, H => ∃ u, H d = some u ∧ Mut (some u) ∧ ∀ o, tLk G Φ (upd H d (.frz o u))
theorem tLk.mono {Φ Ψ : Hp → Prop} (f : ∀ H, Φ H → Ψ H) : ∀ {G : List Addr} {H : Hp}, tLk G Φ H → tLk G Ψ H
  | [], _, h => f _ h
  | _ :: _, _, ⟨u, h, m, k⟩ => ⟨u, h, m, fun o => tLk.mono f (k o)⟩
structure Od where
  pr : List Addr → Hp → V → Prop
  pd : Pd
  frame : ∀ {G : List Addr} {H H' : Hp} {v : V}, pr G H v → (∀ a ∈ G, ∀ o, H a = some o → H' a = some o) → Fzs H H' → pr G H' v
  cells : ∀ {G : List Addr} {H : Hp} {v : V}, pr G H v → ∀ a ∈ G, ∃ o, H a = some o ∧ Mut (some o)
  lockd : ∀ {G : List Addr} {H H1 : Hp} {v : V}, pr G H v → (∀ a, a ∉ G → H1 a = H a) → (∀ a ∈ G, ∀ u, H a = some u → ∃ o, H1 a = some (.frz o u)) → pd.pr H1 v
theorem tLk_of {Φ : Hp → Prop} : ∀ {G : List Addr} {H : Hp}, G.Nodup → (∀ a ∈ G, ∃ u, H a = some u ∧ Mut (some u)) → (∀ H1, (∀ a, a ∉ G → H1 a = H a) → (∀ a ∈ G, ∀ u, H a = some u → ∃ o, H1 a = some (.frz o u)) → Φ H1) → tLk G Φ H
  | [], H, _, _, k => k H (fun _ _ => rfl) fun _ h => absurd h List.not_mem_nil
  | d :: G, H, nd, hm, k => by
    obtain ⟨nd1, nd2⟩ := List.nodup_cons.mp nd
    obtain ⟨u, hu, mu⟩ := hm d List.mem_cons_self
    refine ⟨u, hu, mu, fun o => tLk_of nd2 (fun a ha => ?_) fun H1 h1 h2 => k H1 (fun a ha => ?_) fun a ha w hw => ?_⟩
    · rw [upd_ne (fun e => nd1 (by rw [← e]; exact ha))]
      exact hm a (List.mem_cons_of_mem _ ha)
    · rw [h1 a (fun z => ha (List.mem_cons_of_mem _ z)), upd_ne (fun e => ha (by rw [e]; exact List.mem_cons_self))]
    · by_cases e : a = d
      · subst e
        rw [hu] at hw
        cases hw
        exact ⟨o, by rw [h1 a nd1, upd_same]⟩
      · rcases List.mem_cons.mp ha with z | z
        · exact absurd z e
        · exact h2 a z w (by rw [upd_ne e]; exact hw)
theorem Od.cellsN (d : Od) {G : List Addr} {H : Hp} {v : V} (h : d.pr G H v) : ∀ a ∈ G, ∃ o, H a = some o ∧ ¬ Pst o := fun a ha => by
  obtain ⟨o, e, m⟩ := d.cells h a ha
  exact ⟨o, e, Mut.npst m⟩
theorem Od.lock (d : Od) {G : List Addr} {H : Hp} {v : V} {Φ : Hp → Prop} (h : d.pr G H v) (nd : G.Nodup) (k : ∀ H', (∀ a, a ∉ G → H' a = H a) → (∀ a o, H a = some o → ∃ u, H' a = some u) → d.pd.pr H' v → Φ H') : tLk G Φ H :=
  tLk_of nd (d.cells h) fun H1 h1 h2 => k H1 h1 (fun a o e => by
    by_cases ha : a ∈ G
    · obtain ⟨q, hq⟩ := h2 a ha o e
      exact ⟨_, hq⟩
    · exact ⟨o, by rw [h1 a ha]; exact e⟩) (d.lockd h h1 h2)
structure Cel where
  G : List Addr
  v : V
  d : Od
  prm : Option Nat
structure Cell where
  v : V
  d : Od
  prm : Option Nat
def Cel.fg (c : Cel) : Cell := ⟨c.v, c.d, c.prm⟩
structure Fm where
  H0 : Hp
  M : List (List Addr)
abbrev Gm := List (Option Pd)
abbrev Δs := List Cell
def cellsOf (Δ : List Cel) : List Addr := Δ.flatMap Cel.G
structure HkO (F : Fm) (Δ : List Cel) (H : Hp) : Prop where
  base : ∀ a o, F.H0 a = some o → (∀ m ∈ F.M, a ∉ m) → H a = some o
  del : ∀ c ∈ Δ, c.d.pr c.G H c.v
  nod : (cellsOf Δ).Nodup
  own : ∀ c ∈ Δ, ∀ a ∈ c.G, F.H0 a = none ∨ ∃ i m, c.prm = some i ∧ F.M[i]? = some m ∧ a ∈ m
  mem : ∀ m ∈ F.M, ∀ a ∈ m, ∃ o, H a = some o
def Hk (F : Fm) (Δ : Δs) (H : Hp) : Prop := ∃ Δ0 : List Cel, Δ0.map Cel.fg = Δ ∧ HkO F Δ0 H
structure Nm (Γ : Gm) (σ : SS) (H : Hp) : Prop where
  len : σ.length = Γ.length
  gam : ∀ (i : Nat) (p : Pd), Γ[i]? = some (some p) → ∃ v, σ[i]? = some (some v) ∧ p.pr H v
theorem Nm.mono {Γ : Gm} {σ : SS} {H H' : Hp} (k : Nm Γ σ H) (f : Fzs H H') : Nm Γ σ H' := ⟨k.len, fun i p e => by
  obtain ⟨v, h, q⟩ := k.gam i p e
  exact ⟨v, h, p.mono f q⟩⟩
structure Ok (F : Fm) (Γ : Gm) (Δ : Δs) (σ : SS) (H : Hp) : Prop where
  hk : Hk F Δ H
  nm : Nm Γ σ H
theorem Ok.gam {F : Fm} {Γ : Gm} {Δ : Δs} {σ : SS} {H : Hp} (k : Ok F Γ Δ σ H) : ∀ (i : Nat) (p : Pd), Γ[i]? = some (some p) → ∃ v, σ[i]? = some (some v) ∧ p.pr H v := k.nm.gam
theorem Ok.len {F : Fm} {Γ : Gm} {Δ : Δs} {σ : SS} {H : Hp} (k : Ok F Γ Δ σ H) : σ.length = Γ.length := k.nm.len
theorem mem_cellsOf {Δ : List Cel} {c : Cel} {a : Addr} (h : c ∈ Δ) (ha : a ∈ c.G) : a ∈ cellsOf Δ := List.mem_flatMap.mpr ⟨c, h, ha⟩
theorem cellsOf_cons (c : Cel) (Δ : List Cel) : cellsOf (c :: Δ) = c.G ++ cellsOf Δ := by unfold cellsOf; rw [List.flatMap_cons]
theorem HkO.isC {F : Fm} {Δ : List Cel} {H : Hp} (k : HkO F Δ H) {a : Addr} (h : a ∈ cellsOf Δ) : ∃ o, H a = some o ∧ ¬ Pst o := by
  obtain ⟨c, hc, ha⟩ := List.mem_flatMap.mp h
  exact c.d.cellsN (k.del c hc) a ha
theorem HkO.fresh0 {F : Fm} {Δ : List Cel} {H : Hp} (k : HkO F Δ H) {a : Addr} (h : H a = none) : F.H0 a = none := by
  have hm : ∀ m ∈ F.M, a ∉ m := fun m hm z => by
    obtain ⟨o, e⟩ := k.mem m hm a z
    rw [h] at e; cases e
  cases e : F.H0 a with
  | none => rfl
  | some o => rw [k.base a o e hm] at h; cases h
theorem HkO.cons {F : Fm} {Δ : List Cel} {H : Hp} (k : HkO F Δ H) {c : Cel} (nd : c.G.Nodup) (nw : ∀ a ∈ c.G, a ∉ cellsOf Δ) (h : c.d.pr c.G H c.v) (ho : ∀ a ∈ c.G, F.H0 a = none ∨ ∃ i m, c.prm = some i ∧ F.M[i]? = some m ∧ a ∈ m) : HkO F (c :: Δ) H := by
  refine ⟨k.base, fun x hc => ?_, ?_, fun x hc a ha => ?_, k.mem⟩
  · rcases List.mem_cons.mp hc with e | hc
    · subst e; exact h
    · exact k.del x hc
  · rw [cellsOf_cons]
    refine List.nodup_append.mpr ⟨nd, k.nod, fun a ha b hb e => ?_⟩
    subst e
    exact nw a ha hb
  · rcases List.mem_cons.mp hc with e | hc
    · subst e; exact ho a ha
    · exact k.own x hc a ha
def OkN (W : Bool) (F : Fm) (Γ : Gm) (H : Hp) (v : V) (d : Od) (Δ : Δs) (σ : SS) (H' : Hp) : Prop := ∃ (Δ0 : List Cel) (G : List Addr), Δ0.map Cel.fg = Δ ∧ HkO F (⟨G, v, d, none⟩ :: Δ0) H' ∧ (W = false → ∀ a ∈ G, H a = none) ∧ Nm Γ σ H'
theorem OkN.ok {W : Bool} {F : Fm} {Γ : Gm} {Δ : Δs} {σ : SS} {H H' : Hp} {v : V} {d : Od} (k : OkN W F Γ H v d Δ σ H') : Ok F Γ (⟨v, d, none⟩ :: Δ) σ H' := by
  obtain ⟨Δ0, G, e, k, _, n⟩ := k
  exact ⟨⟨_, by rw [List.map_cons, e]; rfl, k⟩, n⟩
end L3
end
section
set_option maxHeartbeats 4000000
set_option autoImplicit true
namespace L3
open PySem PySem.Spec PyProof.Rows L2
structure St (W : Bool) (H H' : Hp) : Prop where
  fz : Fzs H H'
  kp : W = false → Gr H H'
  dom : ∀ a o, H a = some o → ∃ u, H' a = some u
theorem St.trans {W : Bool} {H H1 H2 : Hp} (a : St W H H1) (b : St W H1 H2) : St W H H2 := ⟨a.fz.trans b.fz, fun n => (a.kp n).trans (b.kp n), fun x o h => by
  obtain ⟨u, e⟩ := a.dom x o h
  exact b.dom x u e⟩
theorem St.back {W : Bool} {H H' : Hp} (s : St W H H') {a : Addr} (h : H' a = none) : H a = none := by
  cases e : H a with
  | none => rfl
  | some o =>
    obtain ⟨u, q⟩ := s.dom a o e
    rw [h] at q; cases q
structure Fn (γ : Type) where
  fin : Hp → γ → Ends → Prop
  mono : ∀ {H H' : Hp} {g : γ} {D : Ends}, fin H g D → Fzs H H' → fin H' g D
section
variable {X : Cx}
variable {W : Bool} {F : Fm} {Γ : Gm} {Δ : Δs} {γ : Type}
section
variable {e a b : Expr} {r : R2} {β1 β2 : Type} {T : Option γ} {k1 : β1 → Option γ} {k2 : β1 → β2 → Option γ} {E1 : β1 → Pd} {E2 : β1 → β2 → Pd} {Δ1 : β1 → Δs} {Δ2 : β1 → β2 → Δs}
end
section
variable {e a b : Expr} {r : R2} {β1 β2 : Type} {T : Option γ} {k1 : β1 → Option γ} {k2 : β1 → β2 → Option γ} {E1 : β1 → Pd} {E2 : β1 → β2 → Pd} {Δ1 : β1 → Δs} {Δ2 : β1 → β2 → Δs}
end
section
variable {a b : Expr} {pos : Pos} {β1 β2 : Type} {T : Option γ} {k1 : β1 → Option γ} {k : β1 × β2 → Option γ} {Δ1 : β1 → Δs} {Δ2 : β1 → β2 → Δs} {i : β1 → Int} {j : β1 → β2 → Int}
end
end
end L3
end
section
set_option maxHeartbeats 4000000
namespace L3
open PySem PySem.Spec PyProof.Rows L2
theorem flat_perm {Δ Δ' : List Cel} (p : Δ.Perm Δ') : (cellsOf Δ).Perm (cellsOf Δ') := by
  unfold cellsOf
  exact p.flatMap_right _
theorem HkO.perm {F : Fm} {Δ Δ' : List Cel} {H : Hp} (k : HkO F Δ H) (p : Δ.Perm Δ') : HkO F Δ' H :=
  ⟨k.base, fun c hc => k.del c (p.mem_iff.mpr hc), (flat_perm p).nodup_iff.mp k.nod, fun c hc => k.own c (p.mem_iff.mpr hc), k.mem⟩
theorem HkO.ndup {F : Fm} {c : Cel} {Δ : List Cel} {H : Hp} (k : HkO F (c :: Δ) H) : c.G.Nodup ∧ (cellsOf Δ).Nodup ∧ ∀ a ∈ c.G, a ∉ cellsOf Δ := by
  have h := k.nod
  rw [cellsOf_cons] at h
  obtain ⟨h1, h2, h3⟩ := List.nodup_append.mp h
  exact ⟨h1, h2, fun a ha hb => h3 a ha a hb rfl⟩
theorem HkO.rest {F : Fm} {c : Cel} {R : List Cel} {H H' : Hp} (k : HkO F (c :: R) H) (kp : ∀ a o, a ∉ c.G → H a = some o → H' a = some o) (dm : ∀ a ∈ c.G, ∃ o, H' a = some o) : HkO F R H' ∧ Fzs H H' ∧ ∀ a o, H a = some o → ∃ u, H' a = some u := by
  have fz : Fzs H H' := fun a o p e => kp a o (fun ha => by
    obtain ⟨u, eu, nu⟩ := c.d.cellsN (k.del c List.mem_cons_self) a ha
    rw [e] at eu
    cases eu
    exact nu p) e
  have dom : ∀ a o, H a = some o → ∃ u, H' a = some u := fun a o e => by
    by_cases ha : a ∈ c.G
    · exact dm a ha
    · exact ⟨o, kp a o ha e⟩
  refine ⟨⟨fun a o e m => ?_, fun x hx => ?_, k.ndup.2.1, fun x hx => k.own x (List.mem_cons_of_mem _ hx), fun m hm a ha => ?_⟩, fz, dom⟩
  · refine kp a o (fun ha => ?_) (k.base a o e m)
    rcases k.own c List.mem_cons_self a ha with z | ⟨i, w, _, hw, z⟩
    · rw [e] at z; cases z
    · exact m w (List.mem_of_getElem? hw) z
  · exact x.d.frame (k.del x (List.mem_cons_of_mem _ hx)) (fun a ha o q => kp a o (fun hc => k.ndup.2.2 a hc (mem_cellsOf hx ha)) q) fz
  · obtain ⟨o, e⟩ := k.mem m hm a ha
    exact dom a o e
theorem HkO.turn {F : Fm} {c : Cel} {R : List Cel} {H H' : Hp} {G' : List Addr} {d' : Od} (k : HkO F (c :: R) H) (kp : ∀ a o, a ∉ c.G → H a = some o → H' a = some o) (dm : ∀ a ∈ c.G, ∃ o, H' a = some o) (nd : G'.Nodup) (sb : ∀ a ∈ G', a ∈ c.G ∨ H a = none) (new : d'.pr G' H' c.v) :
    HkO F (⟨G', c.v, d', c.prm⟩ :: R) H' ∧ Fzs H H' ∧ ∀ a o, H a = some o → ∃ u, H' a = some u := by
  obtain ⟨r, fz, dom⟩ := k.rest kp dm
  refine ⟨r.cons (c := ⟨G', c.v, d', c.prm⟩) nd (fun a ha hb => ?_) new (fun a ha => ?_), fz, dom⟩
  · rcases sb a ha with h | h
    · exact k.ndup.2.2 a h hb
    · obtain ⟨o, e, _⟩ := k.isC (a := a) (by rw [cellsOf_cons]; exact List.mem_append_right _ hb)
      rw [h] at e; cases e
  · rcases sb a ha with h | h
    · exact k.own c List.mem_cons_self a h
    · exact .inl (k.fresh0 h)
theorem map_at {Δ0 : List Cel} {j : Nat} {c : Cell} (h : (Δ0.map Cel.fg)[j]? = some c) : ∃ A x B, Δ0 = A ++ x :: B ∧ A.length = j ∧ x.fg = c := by
  rw [List.getElem?_map] at h
  cases e : Δ0[j]? with
  | none => rw [e] at h; cases h
  | some x =>
    rw [e] at h
    have hl : j < Δ0.length := by
      by_cases hl : j < Δ0.length
      · exact hl
      · rw [List.getElem?_eq_none (by omega)] at e; cases e
    refine ⟨Δ0.take j, x, Δ0.drop (j + 1), ?_, by rw [List.length_take]; omega, by simpa using h⟩
    rw [List.getElem?_eq_getElem hl] at e
    cases e
    rw [← List.drop_eq_getElem_cons hl, List.take_append_drop]
theorem mid_perm {A B : List Cel} {x : Cel} : (A ++ x :: B).Perm (x :: (A ++ B)) := List.perm_middle
theorem map_set {A B : List Cel} {x y : Cel} : (A ++ y :: B).map Cel.fg = ((A ++ x :: B).map Cel.fg).set A.length y.fg := by
  simp
theorem map_erase {A B : List Cel} {x : Cel} : (A ++ B).map Cel.fg = ((A ++ x :: B).map Cel.fg).eraseIdx A.length := by
  rw [List.map_append, List.map_append, List.map_cons, List.eraseIdx_append_of_length_le (by rw [List.length_map]; exact Nat.le_refl _), List.length_map, Nat.sub_self]
  rfl
section
variable {F : Fm} {Γ : Gm} {Δ : Δs} {σ : SS} {H : Hp} {j : Nat} {c : Cell}
theorem Ok.cellG (k : Ok F Γ Δ σ H) (hj : Δ[j]? = some c) : ∃ G, c.d.pr G H c.v ∧ G.Nodup ∧ ∀ H' d' G', (∀ a o, a ∉ G → H a = some o → H' a = some o) → (∀ a ∈ G, ∃ o, H' a = some o) → G'.Nodup → (∀ a ∈ G', a ∈ G ∨ H a = none) → d'.pr G' H' c.v →
    Ok F Γ (Δ.set j { c with d := d' }) σ H' ∧ St true H H' := by
  obtain ⟨⟨Δ0, e, k⟩, n⟩ := k
  subst e
  obtain ⟨A, x, B, e0, el, ex⟩ := map_at hj
  subst e0
  subst ex
  have k1 := k.perm mid_perm
  refine ⟨x.G, k1.del x List.mem_cons_self, k1.ndup.1, fun H' d' G' kp dm nd sb new => ?_⟩
  obtain ⟨k2, fz, dom⟩ := k1.turn kp dm nd sb new
  refine ⟨⟨⟨A ++ ⟨G', x.v, d', x.prm⟩ :: B, ?_, k2.perm mid_perm.symm⟩, n.mono fz⟩, fz, (fun h => nomatch h), dom⟩
  rw [← el]
  exact map_set
theorem Ok.cell (k : Ok F Γ Δ σ H) (hj : Δ[j]? = some c) : ∃ G, c.d.pr G H c.v ∧ G.Nodup ∧ ∀ H' d', (∀ a o, a ∉ G → H a = some o → H' a = some o) → d'.pr G H' c.v → Ok F Γ (Δ.set j { c with d := d' }) σ H' ∧ St true H H' := by
  obtain ⟨G, p, nd, t⟩ := k.cellG hj
  exact ⟨G, p, nd, fun H' d' kp new => t H' d' G kp (fun a ha => by
    obtain ⟨o, e, _⟩ := d'.cellsN new a ha
    exact ⟨o, e⟩) nd (fun a ha => .inl ha) new⟩
theorem Ok.at (k : Ok F Γ Δ σ H) (hj : Δ[j]? = some c) : ∃ G, c.d.pr G H c.v := by
  obtain ⟨G, p, _⟩ := k.cell hj
  exact ⟨G, p⟩
theorem Hk.at (k : Hk F Δ H) (hj : Δ[j]? = some c) : ∃ G, c.d.pr G H c.v := by
  obtain ⟨Δ0, e, k⟩ := k
  subst e
  obtain ⟨A, x, B, e0, el, ex⟩ := map_at hj
  subst e0
  subst ex
  exact ⟨x.G, k.del x (by simp)⟩
end
def tLkX (Φ : Hp → Prop) (H : Hp) : Prop := ∃ G, tLk G Φ H
theorem HkO.frz {F : Fm} {c : Cel} {R : List Cel} {H : Hp} (k : HkO F (c :: R) H) {Φ : Hp → Prop} (q : ∀ H', Fzs H H' → (∀ a, a ∉ c.G → H' a = H a) → (∀ a o, H a = some o → ∃ u, H' a = some u) → HkO F R H' → c.d.pd.pr H' c.v → Φ H') : tLk c.G Φ H := by
  refine c.d.lock (k.del c List.mem_cons_self) k.ndup.1 fun H' kp dom p => ?_
  obtain ⟨r, fz, _⟩ := k.rest (H' := H') (fun a o na e => by rw [kp a na]; exact e) (fun a ha => by
    obtain ⟨o, e, _⟩ := c.d.cellsN (k.del c List.mem_cons_self) a ha
    exact dom a o e)
  exact q H' fz kp dom r p
theorem Ok.frz {F : Fm} {Γ : Gm} {Δ : Δs} {σ : SS} {H : Hp} {j : Nat} {c : Cell} (k : Ok F Γ Δ σ H) (hj : Δ[j]? = some c) {Φ : Hp → Prop} (q : ∀ H', St true H H' → Ok F Γ (Δ.eraseIdx j) σ H' → c.d.pd.pr H' c.v → Φ H') : tLkX Φ H := by
  obtain ⟨⟨Δ0, e, k⟩, n⟩ := k
  subst e
  obtain ⟨A, x, B, e0, el, ex⟩ := map_at hj
  subst e0
  subst ex
  refine ⟨x.G, (k.perm mid_perm).frz fun H' f kp dom h p => q H' ⟨f, (fun h => nomatch h), dom⟩ ⟨⟨A ++ B, ?_, h⟩, n.mono f⟩ p⟩
  rw [← el]
  exact map_erase
theorem OkN.frz {F : Fm} {Γ : Gm} {Δ : Δs} {σ : SS} {H0 H : Hp} {v : V} {d : Od} {W : Bool} (k : OkN W F Γ H0 v d Δ σ H) (s0 : St W H0 H) {Φ : Hp → Prop} (q : ∀ H', St W H0 H' → Ok F Γ Δ σ H' → d.pd.pr H' v → Φ H') : tLkX Φ H := by
  obtain ⟨Δ0, G, e, k, nw, n⟩ := k
  refine ⟨G, k.frz fun H' f kp dom h p => q H' ⟨s0.fz.trans f, fun hW a o ea => ?_, fun a o ea => ?_⟩ ⟨⟨Δ0, e, h⟩, n.mono f⟩ p⟩
  · rw [kp a fun ha => ?_]
    · exact s0.kp hW a o ea
    · rw [nw hW a ha] at ea; cases ea
  · obtain ⟨u, eu⟩ := s0.dom a o ea
    exact dom a u eu
theorem Ok.set {F : Fm} {Γ : Gm} {Δ : Δs} {σ : SS} {H : Hp} {i : Nat} {p : Pd} {v : V} (k : Ok F Γ Δ σ H) (hp : p.pr H v) : Ok F (Γ.set i (some p)) Δ (σ.set i (some v)) H :=
  ⟨k.hk, by rw [List.length_set, List.length_set]; exact k.len, fun j q e => by
    by_cases h : j = i
    · subst h
      by_cases hl : j < Γ.length
      · rw [List.getElem?_set_self hl] at e
        cases e
        exact ⟨v, List.getElem?_set_self (by rw [k.len]; exact hl), hp⟩
      · rw [List.getElem?_eq_none (by rw [List.length_set]; omega)] at e
        cases e
    · rw [List.getElem?_set_ne (fun z => h z.symm)] at e
      obtain ⟨w, hs, hq⟩ := k.gam j q e
      exact ⟨w, by rw [List.getElem?_set_ne (fun z => h z.symm)]; exact hs, hq⟩⟩
def SubG : Gm → Gm → Prop
  | [], [] => True
  | none :: g', _ :: g => SubG g' g
  | some p :: g', some q :: g => p = q ∧ SubG g' g
  | _, _ => False
theorem SubG.len : ∀ {g' g : Gm}, SubG g' g → g'.length = g.length
  | [], [], _ => rfl
  | none :: g', _ :: g, h => congrArg (· + 1) (SubG.len (g' := g') (g := g) h)
  | some p :: g', some q :: g, h => congrArg (· + 1) (SubG.len (g' := g') (g := g) h.2)
  | [], _ :: _, h => h.elim
  | some _ :: _, [], h => h.elim
  | none :: _, [], h => h.elim
  | some _ :: _, none :: _, h => h.elim
end L3
end
section
set_option maxHeartbeats 4000000
namespace L3
open PySem PySem.Spec PyProof.Rows L2
section
variable {X : Cx} {W : Bool} {F : Fm} {Γ : Gm} {Δ : Δs} {γ : Type}
section
variable {e a : Expr} {r : V → Hp → VK → Prop} {β : Type} {T : Option γ} {E1 : β → Pd} {Δ1 : β → Δs}
end
variable {γ : Type} {N : Fn γ} {rest : List Stmt}
end
end L3
end
section
set_option maxHeartbeats 4000000
set_option autoImplicit true
namespace L3
open PySem PySem.Spec PyProof.Rows L2
section
variable {X : Cx} {W : Bool} {F : Fm} {Γ : Gm} {Δ : Δs} {γ : Type}
section
variable {a b : Expr} {rest : List Expr} {pos : Pos} {c1 c2 : Bool} {T : Option γ}
end
section
variable {a b : Expr} {rest : List Expr} {pos : Pos} {β1 β2 S : Type} {T : Option γ} {c1 : β1 → Bool} {c2 : β1 → β2 → Bool} {Δ1 : β1 → Δs} {Δ2 : β1 → β2 → Δs} {T2 : β1 → Option (Bool × S)} {s1 : β1 → S} {s2 : β1 → β2 → S} {ΔS : β1 → S → Δs} {k : β1 × (Bool × S) → Option γ}
end
abbrev Cxt := Gm × Δs
def nxOk (F : Fm) (c : Cxt) (H : Hp) (n : SS → Hp → Prop) : Prop := ∀ σ' H', Fzs H H' → Ok F c.1 c.2 σ' H' → n σ' H'
theorem nxOk.mono {F : Fm} {c : Cxt} {H H' : Hp} {n : SS → Hp → Prop} (h : nxOk F c H n) (f : Fzs H H') : nxOk F c H' n := fun σ1 H1 f1 => h σ1 H1 (f.trans f1)
variable {N : Fn γ} {rest : List Stmt}
section
variable {ce : Expr} {A B : List Stmt} {pos : Pos} {β : Type} {T : Option γ} {c : β → Bool} {Δ' : β → Δs}
end
end
end L3
end
section
set_option maxHeartbeats 4000000
namespace L3
open PySem PySem.Spec PyProof.Rows L2
section
variable {X : Cx} {W : Bool} {F : Fm} {Γ : Gm} {Δ : Δs} {γ : Type}
def RL {α : Type} (E : α → Pd) (xs : List α) (H : Hp) (v : V) : Prop := ∃ a vs, v = .ref a ∧ Rd H a (.lst vs) ∧ xs.length ≤ sizeLine ∧ Paired (fun x u => (E x).pr H u) xs vs
theorem RL.sq {α : Type} {E : α → Pd} {xs : List α} {H : Hp} {v : V} {K : PySem.W.Frag} (h : RL E xs H v) : ∃ a vs, v = .ref a ∧ SqL K H a vs ∧ xs.length ≤ sizeLine ∧ Paired (fun x u => (E x).pr H u) xs vs := by
  obtain ⟨a, vs, e, r, z, p⟩ := h
  exact ⟨a, vs, e, .inl r, z, p⟩
section
variable {a b : Expr} {pos : Pos} {β1 β2 α : Type} {T : Option γ} {k1 : β1 → Option γ} {Δ1 : β1 → Δs} {Δ2 : β1 → β2 → Δs} {E1 : β1 → Pd} {Ee : α → Pd} {xs : β1 → β2 → List α} {j : β1 → β2 → Int}
end
section
variable {a : Expr} {pos p : Pos} {β α : Type} {T : Option γ} {Δ1 : β → Δs} {E1 : β → Pd} {Ee : α → Pd} {xs : β → List α} {k : β → Option γ}
end
section
variable {N : Fn γ} {rest : List Stmt}
end
end
end L3
end
section
set_option maxHeartbeats 4000000
namespace L3
open PySem PySem.Spec PyProof.Rows L2
section
variable {F : Fm} {Γ : Gm} {Δ : Δs} {σ : SS} {H H' : Hp} {W : Bool}
end
end L3
end
section
set_option maxHeartbeats 4000000
namespace L3
open PySem PySem.Spec PyProof.Rows L2
end L3
end
section
set_option maxHeartbeats 4000000
namespace L3
open PySem PySem.Spec PyProof.Rows L2
section
variable {X : Cx} {W : Bool} {F : Fm} {Γ : Gm} {Δ : Δs} {γ : Type}
variable {N : Fn γ} {rest : List Stmt}
end
end L3
end
section
set_option maxHeartbeats 4000000
namespace L3
open PySem PySem.Spec PyProof.Rows L2
theorem Hk.cell {F : Fm} {Δ : Δs} {H : Hp} {j : Nat} {c : Cell} (k : Hk F Δ H) (hj : Δ[j]? = some c) : ∃ G, c.d.pr G H c.v ∧ G.Nodup ∧ ∀ H' d', (∀ a o, a ∉ G → H a = some o → H' a = some o) → d'.pr G H' c.v → Hk F (Δ.set j { c with d := d' }) H' ∧ St true H H' := by
  have k2 : Ok F [] Δ [] H := ⟨k, rfl, fun i p e => by cases e⟩
  obtain ⟨G, p, nd, t⟩ := k2.cell hj
  exact ⟨G, p, nd, fun H' d' kp new => ⟨(t H' d' kp new).1.hk, (t H' d' kp new).2⟩⟩
section
variable {X : Cx} {W : Bool} {F : Fm} {Γ : Gm} {Δ : Δs} {γ : Type}
section
variable {α β β2 β3 δ S : Type} {g : TG} {own : List (Str × Nat)} {T : Option γ} {k0 : β → Option γ} {k : β × (List δ × S) → Option γ} {out : β × (List δ × S) → List δ} {Ex : α → Pd} {Ee : δ → Pd} {bd : Gm → α → Gm} {xs : β → List α} {Δ1 : β → Δs} {C : β → S → Δs} {s0 : β → S} {f : β → α → S → Option (Option δ × S)}
    {c : β → α → S → β2 → Bool} {s2 : β → α → S → β2 → S} {T2 : β → α → S → β2 → Option (Option δ × S)} {y : β → α → S → β2 → β3 → δ} {s3 : β → α → S → β2 → β3 → S}
end
end
end L3
end
section
set_option maxHeartbeats 4000000
namespace L3
open PySem PySem.Spec PyProof.Rows L2
section
variable {X : Cx} {W : Bool} {F : Fm} {Γ : Gm} {Δ : Δs} {γ : Type}
section
variable {a b : Expr} {pos : Pos} {β1 β2 α : Type} [DecidableEq α] {T : Option γ} {k1 : β1 → Option γ} {k : β1 × β2 → Option γ} {Δ1 : β1 → Δs} {Δ2 : β1 → β2 → Δs} {Ee : α → Pd} {i : β1 → α} {E2 : β1 → β2 → Pd} {xs : β1 → β2 → List α}
end
section
variable {a b : Expr} {pos : Pos} {β1 β2 : Type} {T : Option γ} {k1 : β1 → Option γ} {k : β1 × β2 → Option γ} {Δ1 : β1 → Δs} {Δ2 : β1 → β2 → Δs} {i : β1 → Str} {j : β1 → β2 → Str} {c : β1 → Bool} {d : β1 → β2 → Bool}
end
structure Dt {α : Type} [DecidableEq α] (E : α → Pd) where
  toD : α → PyData
  dp : ∀ {K H v x}, (E x).pr H v → Dp K H v (toD x)
  dep : Nat
  can : ∀ x, (toD x).canLay0 = true
  deep : ∀ x, (toD x).depth ≤ dep
  eq : ∀ x y, PyData.eqv (toD x) (toD y) = decide (x = y)
theorem dp_all {α : Type} {E : α → Pd} [DecidableEq α] (d : Dt E) {K : PySem.W.Frag} {H : Hp} : ∀ {xs : List α} {vs : List V}, Paired (fun x u => (E x).pr H u) xs vs → DpAll K H vs (xs.map d.toD)
  | _, _, .nil => .nil
  | _, _, .cons r t => .cons (d.dp r) (dp_all d t)
section
variable {a b : Expr} {pos : Pos} {β1 β2 α : Type} [DecidableEq α] {T : Option γ} {k1 : β1 → Option γ} {k : β1 × β2 → Option γ} {Δ1 : β1 → Δs} {Δ2 : β1 → β2 → Δs} {Ee : α → Pd} {E1 : β1 → Pd} {E2 : β1 → β2 → Pd} {xs ys : β1 → β2 → List α}
theorem RL.dp {α : Type} {E : α → Pd} [DecidableEq α] (d : Dt E) {xs : List α} {H : Hp} {v : V} {K : PySem.W.Frag} (h : RL E xs H v) : Dp K H v (.list (xs.map d.toD)) := by
  obtain ⟨a, vs, e, sq, z, p⟩ := h.sq (K := K)
  rw [e]
  exact .lst sq (dp_all d p)
end
end
end L3
end
section
set_option maxHeartbeats 4000000
namespace L3
open PySem PySem.Spec PyProof.Rows L2
section
variable {X : Cx} {W : Bool} {F : Fm} {Γ : Gm} {Δ : Δs} {γ : Type}
section
variable {a : Expr} {lo hi : Option Expr} {p2 pos : Pos} {β1 β2 β3 α : Type} {T : Option γ} {k1 : β1 → Option γ} {k2 : β1 → β2 → Option γ} {k : β1 × β2 × β3 → Option γ} {E1 : β1 → Pd} {Ee : α → Pd} {xs : β1 → β2 → β3 → List α} {o1 : β1 → β2 → Option Int} {o2 : β1 → β2 → β3 → Option Int} {Δ1 : β1 → Δs} {Δ2 : β1 → β2 → Δs} {Δ3 : β1 → β2 → β3 → Δs}
end
section
variable {a : Expr} {β α : Type} {T : Option γ} {k : β → Option γ} {E1 : β → Pd} {Ee : α → Pd} {xs : β → List α} {Δ1 : β → Δs}
variable {p pos : Pos}
end
section
variable {a : Expr} {i : Int} {n : Nat} {p pos : Pos} {β α1 α2 α3 : Type} {T : Option γ} {k : β → Option γ} {A : α1 → Pd} {B : α2 → Pd} {C : α3 → Pd} {Δ1 : β → Δs}
end
section
variable {a b : Expr} {pos : Pos} {β1 β2 α : Type} {T : Option γ} {k1 : β1 → Option γ} {k : β1 × β2 → Option γ} {Δ1 : β1 → Δs} {Δ2 : β1 → β2 → Δs} {Ee : α → Pd} {E1 : β1 → Pd} {E2 : β1 → β2 → Pd} {xs ys : β1 → β2 → List α}
end
section
variable {o e : Expr} {apos cpos : Pos} {β1 β2 α : Type} {T : Option γ} {k1 : β1 → Option γ} {k : β1 × β2 → Option γ} {Δ1 : β1 → Δs} {Δ2 : β1 → β2 → Δs} {Ee : α → Pd} {xs : β1 → β2 → List α} {y : β1 → β2 → α} {v : V} {prm : Option Nat}
end
section
variable {a : Expr} {pos p : Pos} {j : Nat} {β α : Type} {T : Option γ} {k : β → Option γ} {Ee : α → Pd} {x : β → Option α} {Δ1 : β → Δs}
end
end
end L3
end
section
set_option maxHeartbeats 8000000
namespace L3
open PySem PySem.Spec PyProof.Rows L2
section
variable {P : Program} {w : World} {A : Around} {E : Value → Shared → Prop} {s : Shared}
end
section
variable {X : Cx}
variable {W : Bool} {F : Fm} {Γ : Gm} {Δ : Δs} {γ : Type}
section
variable {a : Expr} {p pos : Pos} {β : Type} {T : Option γ} {E1 : β → Pd} {xs : β → List Int} {Δ1 : β → Δs}
end
end
end L3
end
section
set_option maxHeartbeats 8000000
namespace L3
open PySem PySem.Spec PyProof.Rows L2
section
variable {P : Program} {w : World} {A : Around} {E : Value → Shared → Prop} {s : Shared}
end
section
variable {X : Cx} {W : Bool} {F : Fm} {Γ : Gm} {Δ : Δs} {γ : Type}
section
variable {a : Expr} {p pos : Pos} {β : Type} {T : Option γ} {xs : β → List Int} {Δ1 : β → Δs} {k : β → Option γ}
end
end
end L3
end
section
set_option maxHeartbeats 4000000
namespace L3
open PySem PySem.Spec PyProof.Rows L2
section
variable {X : Cx} {W : Bool} {F : Fm} {Γ : Gm} {Δ : Δs} {γ : Type}
end
end L3
end
section
set_option maxHeartbeats 4000000
namespace L3
open PySem PySem.Spec PyProof.Rows L2
section
variable {X : Cx} {W : Bool} {F : Fm} {Γ : Gm} {Δ : Δs} {γ : Type}
inductive Own3 {α : Type} (D : α → Od) (H : Hp) : List α → List V → List (List Addr) → Prop
  | nil : Own3 D H [] [] []
  | cons {x : α} {xs : List α} {v : V} {vs : List V} {g : List Addr} {gs : List (List Addr)} : (D x).pr g H v → Own3 D H xs vs gs → Own3 D H (x :: xs) (v :: vs) (g :: gs)
theorem Own3.len {α : Type} {D : α → Od} {H : Hp} : ∀ {xs : List α} {vs : List V} {gs : List (List Addr)}, Own3 D H xs vs gs → xs.length = vs.length
  | _, _, _, .nil => rfl
  | _, _, _, .cons _ t => congrArg (· + 1) t.len
theorem Own3.at {α : Type} {D : α → Od} {H : Hp} : ∀ {xs : List α} {vs : List V} {gs : List (List Addr)} {m : Nat} {x : α}, Own3 D H xs vs gs → xs[m]? = some x → ∃ v g, vs[m]? = some v ∧ gs[m]? = some g ∧ (D x).pr g H v
  | _, _, _, _, _, .nil, e => by simp at e
  | _, _, _, 0, _, .cons r _, e => by simp at e; subst e; exact ⟨_, _, rfl, rfl, r⟩
  | _, _, _, m + 1, x, .cons _ t, e => by
    obtain ⟨v, g, h1, h2, h3⟩ := Own3.at (m := m) (x := x) t (by simpa using e)
    exact ⟨v, g, by simpa using h1, by simpa using h2, h3⟩
end
end L3
end
section
set_option maxHeartbeats 4000000
namespace L3
open PySem PySem.Spec PyProof.Rows L2
section
variable {X : Cx} {W : Bool} {F : Fm} {Γ : Gm} {Δ : Δs} {γ : Type} {N : Fn γ} {rest : List Stmt}
end
end L3
end
section
set_option maxHeartbeats 4000000
namespace L3
open PySem PySem.Spec PyProof.Rows L2
section
variable {X : Cx} {W : Bool} {F : Fm} {Γ : Gm} {Δ : Δs} {γ : Type}
section
variable {a : Expr} {pos : Pos} {β : Type} {T : Option γ} {k : β → Option γ} {Δ1 : β → Δs} {i : β → Int}
end
section
variable {a b : Expr} {pos : Pos} {β1 β2 : Type} {T : Option γ} {k1 : β1 → Option γ} {k : β1 × β2 → Option γ} {Δ1 : β1 → Δs} {Δ2 : β1 → β2 → Δs} {i : β1 → Str} {j : β1 → β2 → Str}
end
section
variable {a b : Expr} {pos : Pos} {β1 β2 : Type} {T : Option γ} {k1 : β1 → Option γ} {k : β1 × β2 → Option γ} {Δ1 : β1 → Δs} {Δ2 : β1 → β2 → Δs} {i : β1 → Option Int} {j : β1 → β2 → Option Int} {c : β1 → Option Str} {d : β1 → β2 → Option Str}
end
section
variable {T : Option γ}
end
end
end L3
end
section
set_option maxHeartbeats 4000000
namespace L3
open PySem PySem.Spec PyProof.Rows L2
section
variable {X : Cx} {W : Bool} {F : Fm} {Γ : Gm} {Δ : Δs} {γ : Type}
end
end L3
end
section
set_option maxHeartbeats 4000000
namespace L3
open PySem PySem.Spec PyProof.Rows L2
section
variable {X : Cx} {W : Bool} {F : Fm} {Γ : Gm} {Δ : Δs} {γ : Type}
section
variable {a b : Expr} {pos : Pos} {β1 β2 : Type} {T : Option γ} {k1 : β1 → Option γ} {Δ1 : β1 → Δs} {Δ2 : β1 → β2 → Δs} {xs : β1 → List Int} {j : β1 → β2 → Int}
end
section
variable {a : Expr} {pos p : Pos} {β : Type} {T : Option γ} {Δ1 : β → Δs} {xs : β → List Int} {k : β → Option γ}
end
end
end L3
end
section
set_option maxHeartbeats 4000000
namespace L3
open PySem PySem.Spec PyProof.Rows L2
class Ky (κ : Type) where
  ky : κ → Key
  kp : κ → Pd
  inj : ∀ {x y : κ}, ky x = ky y → x = y
  is : ∀ {x : κ} {H : Hp} {v : V}, (kp x).pr H v → v = kV (ky x)
  of : ∀ (x : κ) (H : Hp), (kp x).pr H (kV (ky x))
@[reducible] instance kyS : Ky Str := { ky := .inr, kp := pStr, inj := fun h => Sum.inr.inj h, is := fun h => h, of := fun _ _ => rfl }
@[reducible] instance kyI : Ky Int := { ky := .inl, kp := pInt, inj := fun h => Sum.inl.inj h, is := fun h => h, of := fun _ _ => rfl }
section
variable {κ α : Type} [DecidableEq κ]
end
section
variable {κ α : Type} [DecidableEq κ] [Ky κ]
abbrev PrM (E : α → Pd) (H : Hp) (x : κ × α) (u : Key × V) : Prop := u.1 = Ky.ky x.1 ∧ (E x.2).pr H u.2
theorem prM_mono {E : α → Pd} {H H' : Hp} (f : Fzs H H') {xs : List (κ × α)} {us : List (Key × V)} (p : Paired (PrM E H) xs us) : Paired (PrM E H') xs us := paired_mono (fun x _ q => ⟨q.1, (E x.2).mono f q.2⟩) p
def pM (E : α → Pd) (xs : List (κ × α)) : Pd where
  pr H v := ∃ a o kvs, v = .ref a ∧ H a = some (.frz o (.dK kvs)) ∧ xs.length ≤ sizeLine ∧ Paired (PrM E H) xs kvs
  mono := fun f ⟨a, o, vs, e, h, z, p⟩ => ⟨a, o, vs, e, f _ _ trivial h, z, prM_mono f p⟩
end
section
variable {X : Cx} {W : Bool} {F : Fm} {Γ : Gm} {Δ : Δs} {γ : Type} {κ α : Type} [DecidableEq κ] [Ky κ]
section
variable {a b : Expr} {pos : Pos} {β1 β2 : Type} {T : Option γ} {k1 : β1 → Option γ} {Δ1 : β1 → Δs} {Δ2 : β1 → β2 → Δs} {E1 : β1 → Pd} {Ee : α → Pd} {xs : β1 → β2 → List (κ × α)} {j : β1 → β2 → κ}
end
section
variable {a b : Expr} {pos : Pos} {β1 β2 : Type} {T : Option γ} {k1 : β1 → Option γ} {k : β1 × β2 → Option γ} {Δ1 : β1 → Δs} {Δ2 : β1 → β2 → Δs} {E2 : β1 → β2 → Pd} {Ee : α → Pd} {xs : β1 → β2 → List (κ × α)} {i : β1 → κ}
end
end
end L3
end
section
set_option maxHeartbeats 4000000
namespace L3
open PySem PySem.Spec PyProof.Rows L2
section
variable {X : Cx} {W : Bool} {F : Fm} {Γ : Gm} {Δ : Δs} {γ : Type} {κ α : Type} [DecidableEq κ] [Ky κ]
section
variable {e a : Expr} {r : V → Hp → VK → Prop} {β : Type} {T : Option γ} {E1 : β → Pd} {Δ1 : β → Δs}
end
section
variable {a : Expr} {pos p : Pos} {β : Type} {T : Option γ} {Δ1 : β → Δs} {E1 : β → Pd} {Ee : α → Pd} {xs : β → List (κ × α)} {k : β → Option γ}
end
section
variable {N : Fn γ} {rest : List Stmt}
end
end
end L3
end
section
set_option maxHeartbeats 4000000
namespace L3
open PySem PySem.Spec PyProof.Rows L2
section
variable {κ α : Type} [DecidableEq κ] [DecidableEq α]
end
section
variable {X : Cx} {W : Bool} {F : Fm} {Γ : Gm} {Δ : Δs} {γ : Type} {κ α : Type} [DecidableEq κ] [Ky κ] [DecidableEq α]
section
variable {a b : Expr} {pos : Pos} {β1 β2 : Type} {T : Option γ} {k1 : β1 → Option γ} {k : β1 × β2 → Option γ} {Δ1 : β1 → Δs} {Δ2 : β1 → β2 → Δs} {Ee : α → Pd} {E1 : β1 → Pd} {E2 : β1 → β2 → Pd} {xs ys : β1 → β2 → List (κ × α)}
end
end
section
variable {X : Cx} {W : Bool} {F : Fm} {Γ : Gm} {Δ : Δs} {γ : Type}
section
variable {a b : Expr} {p pos : Pos} {β1 β2 : Type} {T : Option γ} {k1 : β1 → Option γ} {k : β1 × β2 → Option γ} {Δ1 : β1 → Δs} {Δ2 : β1 → β2 → Δs} {i : β1 → Int} {j : β1 → β2 → Int}
end
section
variable {a b : Expr} {p pos : Pos} {β β1 β2 : Type} {T : Option γ} {k1 : β1 → Option γ} {Δ1 : β1 → Δs} {Δ0 : β → Δs} {Δ2 : β1 → β2 → Δs}
end
section
variable {o e : Expr} {apos cpos : Pos} {β1 β2 α : Type} {T : Option γ} {k1 : β1 → Option γ} {Δ1 : β1 → Δs} {Δ2 : β1 → β2 → Δs} {E1 : β1 → Pd} {Ee : α → Pd} {y : β1 → β2 → α}
end
end
end L3
end
section
set_option maxHeartbeats 4000000
namespace L3
open PySem PySem.Spec PyProof.Rows L2
section
variable {X : Cx} {W : Bool} {F : Fm} {Γ : Gm} {Δ : Δs} {γ : Type}
end
end L3
end
section
set_option maxHeartbeats 4000000
namespace L3
open PySem PySem.Spec PyProof.Rows L2
inductive Val where
  | non
  | bl (b : Bool)
  | int (i : Int)
  | str (x : Str)
  | lst (xs : List Val)
  | tup (xs : List Val)
  | dct (kvs : List (Key × Val))
  | ins (c : Str) (fs : List (Str × Val))
abbrev Mg := Str → Option Value
mutual
inductive VRep (mg : Mg) (H : Hp) : Val → V → Prop
  | non : VRep mg H .non .non
  | bl (b : Bool) : VRep mg H (.bl b) (.bl b)
  | int (i : Int) : VRep mg H (.int i) (.int i)
  | str (x : Str) : VRep mg H (.str x) (.str x)
  | lst {a : Addr} {o : Obj} {vs : List V} {xs : List Val} : H a = some (.frz o (.lst vs)) → xs.length ≤ sizeLine → VReps mg H xs vs → VRep mg H (.lst xs) (.ref a)
  | tup {a : Addr} {vs : List V} {xs : List Val} : H a = some (.tup vs) → xs.length ≤ sizeLine → VReps mg H xs vs → VRep mg H (.tup xs) (.ref a)
  | dct {a : Addr} {o : Obj} {ks : List (Key × V)} {kvs : List (Key × Val)} : H a = some (.frz o (.dK ks)) → kvs.length ≤ sizeLine → VRepD mg H kvs ks → VRep mg H (.dct kvs) (.ref a)
  | ins {a : Addr} {o : Obj} {C dx : Addr} {vs : List (Str × V)} {c : Str} {fs : List (Str × Val)} : H a = some (.frz o (.ins C dx vs)) → mg c = some (.ref C) → VRepF mg H fs vs → VRep mg H (.ins c fs) (.ref a)
inductive VReps (mg : Mg) (H : Hp) : List Val → List V → Prop
  | nil : VReps mg H [] []
  | cons {x : Val} {v : V} {xs : List Val} {vs : List V} : VRep mg H x v → VReps mg H xs vs → VReps mg H (x :: xs) (v :: vs)
inductive VRepD (mg : Mg) (H : Hp) : List (Key × Val) → List (Key × V) → Prop
  | nil : VRepD mg H [] []
  | cons {k : Key} {x : Val} {v : V} {xs : List (Key × Val)} {vs : List (Key × V)} : VRep mg H x v → VRepD mg H xs vs → VRepD mg H ((k, x) :: xs) ((k, v) :: vs)
inductive VRepF (mg : Mg) (H : Hp) : List (Str × Val) → List (Str × V) → Prop
  | nil : VRepF mg H [] []
  | cons {k : Str} {x : Val} {v : V} {xs : List (Str × Val)} {vs : List (Str × V)} : VRep mg H x v → VRepF mg H xs vs → VRepF mg H ((k, x) :: xs) ((k, v) :: vs)
end
mutual
theorem VRep.mono {mg : Mg} {H H' : Hp} (f : Fzs H H') : ∀ {x : Val} {v : V}, VRep mg H x v → VRep mg H' x v
  | _, _, .non => .non
  | _, _, .bl b => .bl b
  | _, _, .int i => .int i
  | _, _, .str x => .str x
  | _, _, .lst h z r => .lst (f _ _ trivial h) z (VReps.mono f r)
  | _, _, .tup h z r => .tup (f _ _ trivial h) z (VReps.mono f r)
  | _, _, .dct h z r => .dct (f _ _ trivial h) z (VRepD.mono f r)
  | _, _, .ins h m r => .ins (f _ _ trivial h) m (VRepF.mono f r)
theorem VReps.mono {mg : Mg} {H H' : Hp} (f : Fzs H H') : ∀ {x : List Val} {v : List V}, VReps mg H x v → VReps mg H' x v
  | _, _, .nil => .nil
  | _, _, .cons a b => .cons (VRep.mono f a) (VReps.mono f b)
theorem VRepD.mono {mg : Mg} {H H' : Hp} (f : Fzs H H') : ∀ {x : List (Key × Val)} {v : List (Key × V)}, VRepD mg H x v → VRepD mg H' x v
  | _, _, .nil => .nil
  | _, _, .cons a b => .cons (VRep.mono f a) (VRepD.mono f b)
theorem VRepF.mono {mg : Mg} {H H' : Hp} (f : Fzs H H') : ∀ {x : List (Str × Val)} {v : List (Str × V)}, VRepF mg H x v → VRepF mg H' x v
  | _, _, .nil => .nil
  | _, _, .cons a b => .cons (VRep.mono f a) (VRepF.mono f b)
end
abbrev Kp (G : List Addr) (H H' : Hp) : Prop := ∀ a ∈ G, ∀ o, H a = some o → H' a = some o
theorem Kp.r {G1 G2 : List Addr} {H H' : Hp} (k : Kp (G1 ++ G2) H H') : Kp G2 H H' := fun a ha => k a (List.mem_append_right _ ha)
theorem Kp.t {a : Addr} {G : List Addr} {H H' : Hp} (k : Kp (a :: G) H H') : Kp G H H' := fun a ha => k a (List.mem_cons_of_mem _ ha)
abbrev Muts (G : List Addr) (H : Hp) : Prop := ∀ a ∈ G, ∃ o, H a = some o ∧ Mut (some o)
theorem Muts.cons {a : Addr} {G : List Addr} {H : Hp} {o : HO} (h : H a = some o) (m : Mut (some o)) (t : Muts G H) : Muts (a :: G) H := fun b hb => by
  rcases List.mem_cons.mp hb with e | hb
  · rw [e]; exact ⟨o, h, m⟩
  · exact t b hb
abbrev Lkd (S : List Addr) (H H1 : Hp) : Prop := ∀ a ∈ S, ∀ u, H a = some u → ∃ o, H1 a = some (.frz o u)
theorem Lkd.r {G1 G2 : List Addr} {H H' : Hp} (k : Lkd (G1 ++ G2) H H') : Lkd G2 H H' := fun a ha => k a (List.mem_append_right _ ha)
theorem Lkd.t {a : Addr} {G : List Addr} {H H' : Hp} (k : Lkd (a :: G) H H') : Lkd G H H' := fun a ha => k a (List.mem_cons_of_mem _ ha)
end L3
end
section
set_option maxHeartbeats 4000000
namespace L3
open PySem PySem.Spec PyProof.Rows L2
structure Dg {α : Type} [DecidableEq α] (E : α → Pd) where
  toD : α → PyData
  dp : ∀ {K H v x}, (E x).pr H v → Dp K H v (toD x)
  dep : Nat
  ok : α → Bool
  can : ∀ x, ok x = true → (toD x).canLay0 = true
  deep : ∀ x, (toD x).depth ≤ dep
  eq : ∀ x y, PyData.eqv (toD x) (toD y) = decide (x = y)
def Dt.g {α : Type} [DecidableEq α] {E : α → Pd} (d : Dt E) : Dg E := ⟨d.toD, d.dp, d.dep, fun _ => true, fun x _ => d.can x, d.deep, d.eq⟩
section
variable {X : Cx} {W : Bool} {F : Fm} {Γ : Gm} {Δ : Δs} {γ : Type} {a b : Expr} {pos : Pos} {β1 β2 α : Type} [DecidableEq α] {T : Option γ} {k1 : β1 → Option γ} {k : β1 × β2 → Option γ} {Δ1 : β1 → Δs} {Δ2 : β1 → β2 → Δs} {Ee : α → Pd} {x : β1 → α} {y : β1 → β2 → α}
end
section
variable {X : Cx} {W : Bool} {F : Fm} {Γ : Gm} {Δ : Δs} {γ : Type}
section
variable {a b : Expr} {pos : Pos} {β1 β2 : Type} {T : Option γ} {k1 : β1 → Option γ} {k : β1 × β2 → Option γ} {Δ1 : β1 → Δs} {Δ2 : β1 → β2 → Δs} {i : β1 → Int} {v0 : V} {xs : β1 → β2 → List Int} {prm : Option Nat}
end
end
end L3
end
section
set_option maxHeartbeats 4000000
namespace L3
open PySem PySem.Spec PyProof.Rows L2
section
variable {X : Cx} {W : Bool} {F : Fm} {Γ : Gm} {Δ : Δs} {γ : Type}
variable {α α2 β β4 β5 δ : Type} {g g2 : TG} {own : List (Str × Nat)} {vs1 : List Nat} {T : Option γ} {k0 : β → Option γ} {k : β × List δ → Option γ} {Ex : α → Pd} {Ex2 : α2 → Pd} {Ee : δ → Pd} {bd : Gm → α → Gm} {bd2 : Gm → α2 → Gm} {xs : β → List α} {C : β → Δs} {f : β → α → Option (List δ)}
    {ys : β → α → β4 → List α2} {h : β → α → β4 → α2 → Option δ} {e : β → α → β4 → α2 → β5 → δ}
end
end L3
end
section
set_option maxHeartbeats 4000000
namespace L3
open PySem PySem.Spec PyProof.Rows L2
section
variable {κ α : Type} [DecidableEq κ]
end
section
variable {κ α : Type} [DecidableEq κ] [Ky κ]
end
section
variable {X : Cx} {W : Bool} {F : Fm} {Γ : Gm} {Δ : Δs} {γ : Type}
end
end L3
end
section
set_option maxHeartbeats 4000000
namespace L3
open PySem PySem.Spec PyProof.Rows L2
section
variable {X : Cx} {W : Bool} {F : Fm} {Γ : Gm} {Δ : Δs} {γ : Type}
section
variable {o i e : Expr} {pos : Pos} {β1 β2 α : Type} {T : Option γ} {k1 : β1 → Option γ} {v : V} {d : Od} {D : α → Od} {prm : Option Nat}
end
section
variable {o e : Expr} {apos cpos : Pos} {β1 β2 α : Type} {T : Option γ} {k1 : β1 → Option γ} {k : β1 × β2 → Option γ} {v : V} {d : Od} {prm : Option Nat} {xs : β1 → List α} {back : β1 → List α → Od} {y : β1 → β2 → α}
end
section
variable {N : Fn γ} {rest : List Stmt} {κ : Type} [DecidableEq κ] [Ky κ]
end
end
end L3
end
section
set_option maxHeartbeats 4000000
namespace L3
open PySem PySem.Spec PyProof.Rows L2
section
variable {X : Cx} {W : Bool} {F : Fm} {Γ : Gm} {Δ : Δs} {γ : Type}
section
variable {κ δ : Type} [DecidableEq κ] [Ky κ]
variable {α β β2 β3 : Type} {g : TG} {own : List (Str × Nat)} {T : Option γ} {k : β × List (κ × δ) → Option γ} {Ex : α → Pd} {D : δ → Od} {bd : Gm → α → Gm} {xs : β → List α} {Δ1 : β → Δs} {f : β → α → Option (κ × δ)} {T2 : β → α → β2 → Option (κ × δ)} {ky : β → α → β2 → κ} {y : β → α → β2 → β3 → δ}
end
end
end L3
end
section
set_option maxHeartbeats 4000000
namespace PySem.SeqAt
open AutoSeq1 (wpAny_loadPart')
open MeetsSeq MeetsSeq2 MeetsSeq3 SeqRoads2
section
variable {prog : Program} {w : World}
end
end PySem.SeqAt
end
section
set_option maxHeartbeats 4000000
namespace L3
open PySem PySem.Spec PyProof.Rows L2
section
variable {κ α : Type} [DecidableEq κ] [Ky κ]
end
section
variable {α : Type}
end
end L3
end
section
set_option maxHeartbeats 4000000
namespace L3
open PySem PySem.Spec PyProof.Rows L2
section
variable {X : Cx} {W : Bool} {F : Fm} {Γ : Gm} {Δ : Δs} {γ : Type}
section
variable {a b : Expr} {pos : Pos} {β1 β2 α : Type} {T : Option γ} {k1 : β1 → Option γ} {k : β1 × β2 → Option γ} {Δ1 : β1 → Δs} {Δ2 : β1 → β2 → Δs} {Ee : α → Pd} {x : β1 → List α} {y : β1 → β2 → List α}
end
end
end L3
end
section
set_option maxHeartbeats 4000000
set_option autoImplicit true
namespace L3
open PySem PySem.Spec PyProof.Rows L2
section
variable {X : Cx} {W : Bool} {F : Fm} {Γ : Gm} {Δ : Δs} {γ : Type}
section
variable {e a b : Expr} {r : R2} {β1 β2 : Type} {T : Option γ} {k1 : β1 → Option γ} {E1 : β1 → Pd} {E2 : β1 → β2 → Pd} {Δ1 : β1 → Δs} {Δ2 : β1 → β2 → Δs}
end
section
variable {a b : Expr} {pos : Pos} {β1 β2 α : Type} {T : Option γ} {k1 : β1 → Option γ} {k : β1 × β2 → Option γ} {Δ1 : β1 → Δs} {Δ2 : β1 → β2 → Δs} {Ee : α → Pd} {x : β1 → List α} {y : β1 → β2 → List α}
end
section
variable {a b : Expr} {pos : Pos} {β1 β2 α : Type} [DecidableEq α] {T : Option γ} {k1 : β1 → Option γ} {k : β1 × β2 → Option γ} {Δ1 : β1 → Δs} {Δ2 : β1 → β2 → Δs} {Ee : α → Pd} {x : β1 → α} {y : β1 → β2 → α}
end
end
end L3
end
section
set_option maxHeartbeats 2000000
namespace PySem
namespace SxX
open PySem.W PySem.Calls PyProof.Rows PySem.HandSPX
section
variable {prog : Program} {w : World} {A : Around} {E : Value → Shared → Prop} {K : Frag} {C x L t1 : Addr} {env : Env} {g : Array GenState} {d : Drawn} {os : OsState} {hb : Heap} {m : Str → Option Value} {cd : ClassData}
end
end SxX
end PySem
end
section
set_option maxHeartbeats 2000000
namespace PySem
namespace SxX
open PySem.W PySem.Calls PyProof.Rows PySem.HandSPX
section
variable {prog : Program} {w : World} {A : Around} {R : Result → Shared → Prop} {K : Frag} {C fI x t0 : Addr} {ps : List Str} {hb : Heap} {g : Array GenState} {d : Drawn} {tk : Nat} {os : OsState} {mg : Str → Option Value}
end
end SxX
end PySem
end
section
set_option maxHeartbeats 2000000
set_option autoImplicit true
namespace L2
open PySem PySem.Spec PyProof.Rows PySem.SxX
section
variable {X : Cx} {C fI : Addr} {ps : List Str} {x : Str} {p pos : Pos} {k : Nat}
end
end L2
end
section
set_option maxHeartbeats 4000000
set_option autoImplicit true
namespace L3
open PySem PySem.Spec PyProof.Rows L2 PySem.SxX
structure Xk (ε : Type) where
  ok : ε → Value → Option Addr → Hp → Prop
  mono : ∀ {e : ε} {cls : Value} {d : Option Addr} {H H' : Hp}, Fzs H H' → ok e cls d H → ok e cls d H'
def xOut {ε : Type} (Kx : Xk ε) (F : Fm) (Δx : Δs) (Nx : SS → Hp → Prop) (Wx : WX) (e : ε) (H : Hp) : Prop := ∀ cls d σ H', Fzs H H' → Hk F Δx H' → Nx σ H' → Kx.ok e cls d H' → Wx cls d σ H'
def Ex {ε γ : Type} (N : Fn γ) (ιx : ε → γ) (Kx : Xk ε) (F : Fm) (Δx : Δs) (Nx : SS → Hp → Prop) (Wx : WX) : Prop := ∀ H e D, N.fin H (ιx e) D → xOut Kx F Δx Nx Wx e H
section
variable {X : Cx} {W : Bool} {F : Fm} {Γ : Gm} {Δ : Δs} {γ ε : Type} {Kx : Xk ε} {N : Fn γ} {ιx : ε → γ} {Δx : Δs} {Nx : SS → Hp → Prop} {Wx : WX} {k : Nat} {C fI : Addr} {ps : List Str} {x : Str} {p pos pos2 : Pos}
section
variable {f : Addr} {fd : FuncData} {kk : Nat} {α ρ β : Type} {A : α → List Pd} {Mf : α → Option (Except ε ρ)} {xs : β → α} {T : Option γ} {e : Expr} {es : List Expr}
end
section
variable {rest : List Stmt} {β : Type} {T : Option γ} {kc : β → Option γ} {Δ' : β → Δs} {e : Expr}
end
end
end L3
end
section
set_option maxHeartbeats 4000000
set_option autoImplicit true
namespace L3
open PySem PySem.Spec PyProof.Rows L2 PySem.SxX
section
variable {X : Cx} {W : Bool} {F : Fm} {Γ : Gm} {Δ : Δs} {γ ε : Type} {Kx : Xk ε}
end
inductive FV where
  | str (x : Str)
  | int (i : Int)
  | tupI (xs : List Int)
  | lstS (xs : List Str)
  | dctI (xs : List (Str × Int))
def FV.p : FV → Pd
  | .str x => pStr x
  | .int i => pInt i
  | .tupI xs => pTL pInt xs
  | .lstS xs => pL pStr xs
  | .dctI xs => pM pInt xs
structure Er where
  cn : Str
  fs : List FV
def subC (x y : Str) : Bool := x == y || y == "DeskError" || y == "ValueError"
section
variable {X : Cx} {W : Bool} {F : Fm} {Γ : Gm} {Δ : Δs} {γ : Type} {P : Program} {rs cs : List Str}
variable {a : Addr} {oe : Obj} {cls : Value} {d : Option Addr} {pn : List (Addr × Obj)} {e : Er} {mg : Str → Option Value}
end
end L3
end
section
set_option maxHeartbeats 4000000
set_option autoImplicit true
namespace L3
open PySem PySem.Spec PyProof.Rows L2 PySem.SxX
section
variable {X : Cx} {W : Bool} {F : Fm} {Γ : Gm} {Δ : Δs} {γ : Type} {N : Fn γ} {rest : List Stmt}
end
section
variable {X : Cx} {W : Bool} {F : Fm} {Γ : Gm} {Δ : Δs} {γ : Type}
section
variable {a b : Expr} {pos : Pos} {β1 β2 : Type} {T : Option γ} {k1 : β1 → Option γ} {k : β1 × β2 → Option γ} {Δ1 : β1 → Δs} {Δ2 : β1 → β2 → Δs}
end
end
end L3
end
section
set_option maxHeartbeats 4000000
set_option autoImplicit true
namespace L3
open PySem PySem.Spec PyProof.Rows L2 PySem.SxX
section
variable {X : Cx} {W : Bool} {F : Fm} {Γ : Gm} {Δ : Δs} {γ : Type} {P : Program} {rs cs : List Str}
variable {a : Addr} {oe : Obj} {cls : Value} {d : Option Addr} {pn : List (Addr × Obj)} {e : Er}
end
end L3
end
section
set_option maxHeartbeats 4000000
set_option autoImplicit true
namespace L3
open PySem PySem.Spec PyProof.Rows L2 PySem.SxX
open He (ga ma eqO eqO_ok ba)
structure XD where
  name : Str
  qual : Str
  params : Arguments
  body : List Stmt
  scope : Scope
  ps : List Str
abbrev FnX : Type := Option (Str × Str × Arguments × FuncBody × Scope × Addr × List Str × Addr)
def iAd (K : PySem.W.Frag) (x : Str) : Addr := ma K (ga K x) "__init__"
def fnXo (K : PySem.W.Frag) (x : Str) : FnX := match K.lookup (iAd K x) with
  | some ⟨_, _, .func fd, _⟩ => some (fd.name, fd.qualname, fd.params, fd.body, fd.scope, fd.globals, fd.closure.map (·.1), fd.builtins)
  | _ => none
def XD.val (d : XD) : FnX := some ("__init__", d.qual, d.params, .stmts d.body, d.scope, mainGlobals, ["__class__"], builtinsNs)
def clsXB (K : PySem.W.Frag) (C : Addr) : Bool := match K.lookup C with
  | some ⟨.type "type", _, .cls cd, sl⟩ => (match cd.mro, sl.toList with
    | .ref C' :: bm, [_, _, _, _, some (.builtin n), _] => C' == C && n == "ValueError.__new__" && !cd.hasDel && cd.hasDict && PySem.HandSPX.refsVE bm
    | _, _ => false)
  | _ => false
def iniXB (P : Program) (K : PySem.W.Frag) (C fI : Addr) (q : Str) : Bool := match K.lookup fI with
  | some ⟨_, _, .func fd, _⟩ => (match fd.defaults, fd.kwdefaults, fd.code, fd.closure with
    | .none, .none, .ref cda, [(_, cc)] => PySem.W.codeIn K (.ref cda) q && ((match K.lookup cda with
      | some ⟨_, _, .fields vs, _⟩ => (match ((vs : Array Value)[2]? : Option Value) with
        | some (.str file _) => (P.main.file : Str) == file
        | _ => false)
      | _ => false) && (match K.lookup cc with
      | some ⟨_, _, .cell (some (.ref C')), _⟩ => C' == C
      | _ => false))
    | _, _, _, _ => false)
  | _ => false
def XD.ok (P : Program) (K : PySem.W.Frag) (d : XD) : Bool :=
  clsXB K (ga K d.name) && (eqO (PySem.W.findIn K (.ref (ga K d.name)) "__setattr__") (some (some (.builtin "object.__setattr__"))) && ((d.ps.all fun f => eqO (PySem.W.findIn K (.ref (ga K d.name)) f) (some none)) && (eqO (PySem.W.findIn K (.ref (ga K d.name)) "__init__") (some (some (.ref (iAd K d.name)))) &&
  (decide (PySem.W.typeIn K (.ref (iAd K d.name)) = some (.type "function")) && (PySem.W.keepIn K (.ref (ga K d.name)) && (decide (PySem.W.subIn K (.ref (ga K d.name)) (.type "BaseException") = some true) && (decide (PySem.W.subIn K (.ref (ga K d.name)) (.type "ValueError") = some true) &&
  (decide (PySem.W.typeIn K (.ref (ga K d.name)) = some (.type "type")) && (eqO (PySem.W.ks_superIn K (ga K d.name) (ga K d.name) "__init__") (some (some (.builtin "ValueError.__init__"))) && (eqO (PySem.W.nsIn K cStatics "thirdparty.any") (some none) && (iniXB P K (ga K d.name) (iAd K d.name) d.qual &&
  (eqO (PySem.W.findIn K (.ref (ga K d.name)) "__getattribute__") (some (some (.builtin "BaseException.__getattribute__"))) && (eqO (PySem.W.findIn K (.ref (ga K d.name)) "__getattr__") (some none) && (PySem.W.hasDictIn K (ga K d.name) && (eqO (PySem.W.findIn K (.ref (ga K d.name)) "__class__") (some (some (.builtin "object.__class__"))) &&
  (eqO (PySem.W.specialIn K (.builtin "object.__class__") "__get__") (some (some (.builtin "getset_descriptor.__get__"))) && (decide (PySem.W.takesIn K (.builtin "object.__class__") = some true) && decide (PySem.W.mroIn K (ga K d.name) (.type "object") = some true))))))))))))))))))
def cU (K : PySem.W.Frag) (y : Str) : Value := if y = "ValueError" then .type "ValueError" else .ref (ga K y)
def tabB (K : PySem.W.Frag) (rs cs : List Str) : Bool := rs.all fun x => cs.all fun y => decide (PySem.W.kitOne K (.ref (ga K x)) (cU K y) = some (subC x y)) && decide (PySem.W.exmOne K (.ref (ga K x)) (cU K y) = some (subC x y))
abbrev AlX : Type := He.AlD × List FnX × Bool
def obsX (P : Program) (fa : List He.Fa) (fn : List He.DefD) (xs : List XD) (rs cs : List Str) (K : PySem.W.Frag) : AlX := (He.obsD fa fn K, xs.map fun d => fnXo K d.name, (xs.all fun d => d.ok P K) && tabB K rs cs)
def valX (fn : List He.DefD) (xs : List XD) : AlX := (He.valD fn, xs.map XD.val, true)
def SaysX (P : Program) (fa : List He.Fa) (fn : List He.DefD) (xs : List XD) (rs cs : List Str) (K : PySem.W.Frag) : Prop := obsX P fa fn xs rs cs K = valX fn xs
def obsXG (n : Nat) (P : Program) (fa : List He.Fa) (fn : List He.DefD) (xs : List XD) (rs cs : List Str) (g : Addr → Option Obj) : AlX := obsX P fa fn xs rs cs (He.frG g (cStatics :: He.asD g n))
def hookX (n : Nat) (P : Program) (fa : List He.Fa) (fn : List He.DefD) (xs : List XD) (rs cs : List Str) : PySem.W.Hook where
  α := AlX
  obs := fun s => obsXG n P fa fn xs rs cs s.heap.get?
  val := fun _ => valX fn xs
  says := fun _ h => ∃ K : PySem.W.Frag, K.In h ∧ SaysX P fa fn xs rs cs K
  of := fun _ _ e => ⟨_, He.frG_in, e⟩
  keeps := fun _ _ _ ⟨K, hK, c⟩ k => ⟨K, PySem.W.Frag.In.keeps hK k, c⟩
theorem obsXG_eq {n : Nat} {P : Program} {fa : List He.Fa} {fn : List He.DefD} {xs : List XD} {rs cs : List Str} {g : Addr → Option Obj} {s : Shared} (h : ∀ a, g a = s.heap.get? a) : obsXG n P fa fn xs rs cs g = (hookX n P fa fn xs rs cs).obs s := by
  have e : g = s.heap.get? := funext h
  rw [e] <;> rfl
section
variable {P : Program} {fa : List He.Fa} {fn : List He.DefD} {xs : List XD} {rs cs : List Str} {K : PySem.W.Frag}
theorem SaysX.d (c : SaysX P fa fn xs rs cs K) : He.SaysD fa fn K := congrArg (fun z : AlX => z.1) c
end
end L3
end
section
set_option maxHeartbeats 4000000
set_option autoImplicit true
namespace L3
open PySem PySem.Spec PyProof.Rows L2
section
variable {X : Cx} {F : Fm} {Γ : Gm} {Δ : Δs} {γ : Type}
variable {α β β3 δ : Type} {g : TG} {own : List (Str × Nat)} {T : Option γ} {k : β × List δ → Option γ} {Ex : α → Pd} {D : δ → Od} {bd : Gm → α → Gm} {xs : β → List α} {Δ1 : β → Δs} {f : β → α → Option δ} {y : β → α → β3 → δ}
end
section
variable {X : Cx} {W : Bool} {F : Fm} {Γ : Gm} {Δ : Δs} {γ : Type}
end
end L3
end
section
set_option maxHeartbeats 4000000
set_option autoImplicit true
namespace L3
open PySem PySem.Spec PyProof.Rows L2
section
variable {X : Cx} {W : Bool} {F : Fm} {Γ : Gm} {Δ : Δs} {γ : Type} {α β α' : Type} {E : α → Pd} {G : α' → Pd}
end
end L3
end
section
set_option maxHeartbeats 4000000
set_option autoImplicit true
namespace L3
open PySem PySem.Spec PyProof.Rows L2
section
variable {X : Cx} {W : Bool} {F : Fm} {Γ : Gm} {Δ : Δs} {γ : Type}
section
variable {a b : Expr} {pos : Pos} {β1 β2 α β : Type} {T : Option γ} {k1 : β1 → Option γ} {k : β1 × β2 → Option γ} {Δ1 : β1 → Δs} {Δ2 : β1 → β2 → Δs} {E : α → Pd} {G : β → Pd} {x : β1 → α × β} {y : β1 → β2 → α × β}
end
section
variable {a b : Expr} {pos : Pos} {β1 β2 α : Type} [DecidableEq α] {T : Option γ} {k1 : β1 → Option γ} {k : β1 × β2 → Option γ} {Δ1 : β1 → Δs} {Δ2 : β1 → β2 → Δs} {E : α → Pd} {x : β1 → α} {y : β1 → β2 → List α}
end
end
end L3
end
section
set_option maxHeartbeats 4000000
set_option autoImplicit true
namespace L3
open PySem PySem.Spec PyProof.Rows L2
section
variable {X : Cx} {W : Bool} {F : Fm} {Γ : Gm} {Δ : Δs} {γ : Type}
end
end L3
end
section
set_option maxHeartbeats 4000000
set_option autoImplicit true
namespace L3
open PySem PySem.Spec PyProof.Rows L2
section
variable {X : Cx}
end
section
variable {X : Cx} {F : Fm} {Γ : Gm} {Δ : Δs} {γ : Type} {κ δ : Type} [DecidableEq κ] [Ky κ]
variable {α β β2 β3 : Type} {g : TG} {own : List (Str × Nat)} {T : Option γ} {k : β × List (κ × δ) → Option γ} {Ex : α → Pd} {D : δ → Od} {bd : Gm → α → Gm} {xs : β → List α} {Δ1 : β → Δs} {f : β → α → Option (κ × δ)} {T2 : β → α → β2 → Option (κ × δ)} {ky : β → α → β2 → κ} {y : β → α → β2 → β3 → δ}
end
end L3
end
section
set_option maxHeartbeats 4000000
set_option autoImplicit true
namespace L3
open PySem PySem.Spec PyProof.Rows L2
section
variable {X : Cx} {W : Bool} {F : Fm} {Γ : Gm} {Δ : Δs} {γ : Type}
section
variable {a : Expr} {n} {p pos : Pos} {β α1 α2 α3 α4 : Type} {T : Option γ} {k : β → Option γ} {Δ1 : β → Δs} {A : α1 → Pd} {B : α2 → Pd} {C : α3 → Pd} {D : α4 → Pd}
end
end
section
variable {X : Cx} {W : Bool} {F : Fm} {Γ : Gm} {Δ : Δs} {γ : Type}
end
section
variable {X : Cx} {W : Bool} {F : Fm} {Γ : Gm} {Δ : Δs} {γ : Type} {κ α δ : Type} [DecidableEq κ] [Ky κ] [DecidableEq α] [DecidableEq δ]
variable {a b : Expr} {pos : Pos} {β1 β2 : Type} {T : Option γ} {k1 : β1 → Option γ} {k : β1 × β2 → Option γ} {Δ1 : β1 → Δs} {Δ2 : β1 → β2 → Δs} {E : α → Pd} {G : δ → Pd} {x : β1 → List α ⊕ List (κ × δ)} {y : β1 → β2 → List α ⊕ List (κ × δ)}
end
end L3
end
section
set_option maxHeartbeats 4000000
set_option autoImplicit true
namespace L3
open PySem PySem.Spec PyProof.Rows L2
section
variable {X : Cx} {W : Bool} {F : Fm} {Γ : Gm} {Δ : Δs} {γ : Type}
end
section
variable {X : Cx} {W : Bool} {F : Fm} {Γ : Gm} {Δ : Δs} {γ : Type} {κ α δ : Type} [DecidableEq κ] [Ky κ] [DecidableEq α] [DecidableEq δ]
variable {a b : Expr} {pos : Pos} {β1 β2 : Type} {T : Option γ} {k1 : β1 → Option γ} {k : β1 × β2 → Option γ} {Δ1 : β1 → Δs} {Δ2 : β1 → β2 → Δs} {E : α → Pd} {G : δ → Pd} {x : β1 → List α ⊕ List (κ × δ)} {y : β1 → β2 → List α ⊕ List (κ × δ)}
end
end L3
end
section
set_option maxHeartbeats 4000000
set_option autoImplicit true
namespace L3
open PySem PySem.Spec PyProof.Rows L2
section
variable {X : Cx} {W : Bool} {F : Fm} {Γ : Gm} {Δ : Δs} {γ : Type}
variable {N : Fn γ} {rest : List Stmt}
section
variable {κ α : Type} [DecidableEq κ] [Ky κ] {a b : Expr} {apos cpos : Pos} {β1 β2 : Type} {T : Option γ} {k1 : β1 → Option γ} {Δ1 : β1 → Δs} {Δ2 : β1 → β2 → Δs} {E1 : β1 → Pd} {Ee : α → Pd} {xs : β1 → β2 → List (κ × α)} {j : β1 → β2 → κ}
end
end
end L3
end
section
set_option maxHeartbeats 4000000
set_option autoImplicit true
namespace L3
open PySem PySem.Spec PyProof.Rows L2
section
variable {X : Cx} {W : Bool} {F : Fm} {Γ : Gm} {Δ : Δs} {γ : Type}
variable {N : Fn γ} {rest : List Stmt}
end
end L3
end
section
set_option maxHeartbeats 4000000
set_option autoImplicit true
namespace L3
open PySem PySem.Spec PyProof.Rows L2
section
variable {X : Cx} {pins : List (Addr × Obj)} {σ : SS} {H : Hp} {s : Shared} {a C dx : Addr} {fs : List (Str × V)} {f : Str} {v : V} {A : Around} {E : Value → Shared → Prop}
end
section
variable {X : Cx} {CX : CXT} {k : Nat} {f : Addr} {fd : FuncData} {ps : List Str} {sp : Sp} {E : XK} {m : Str} {pos apos : Pos} {e o : Expr} {es : List Expr} {ta : TE} {t : TA}
end
section
variable {X : Cx} {W : Bool} {F : Fm} {Γ : Gm} {Δ : Δs} {γ : Type}
variable {N : Fn γ} {rest : List Stmt}
end
def fI {ρ : Type} (F : Fm) (P : ρ → Δs) : Fn ρ := ⟨fun _ r D => ∀ σ' H', Hk F (P r) H' → D.nx σ' H', fun h _ => h⟩
section
variable {X : Cx} {W : Bool} {F : Fm} {Γ : Gm} {Δ : Δs} {γ : Type}
end
end L3
end
section
set_option maxHeartbeats 4000000
set_option autoImplicit true
namespace L3
open PySem PySem.Spec PyProof.Rows L2
section
variable {X : Cx} {W : Bool} {F : Fm} {Γ : Gm} {Δ : Δs} {γ : Type}
section
variable {a : Expr} {pos p : Pos} {β α : Type} {T : Option γ} {Δ1 : β → Δs} {E1 : β → Pd} {Ee : α → Pd} {xs : β → List α} {k : β → Option γ}
end
section
variable {a b : Expr} {pos : Pos} {β1 β2 α : Type} {T : Option γ} {k1 : β1 → Option γ} {Δ1 : β1 → Δs} {Δ2 : β1 → β2 → Δs} {E1 : β1 → Pd} {Ee : α → Pd} {xs : β1 → List α} {j : β1 → β2 → Int}
end
section
variable {a : Expr} {lo hi : Option Expr} {p2 pos : Pos} {β1 β2 β3 α : Type} {T : Option γ} {k1 : β1 → Option γ} {k2 : β1 → β2 → Option γ} {k : β1 × β2 × β3 → Option γ} {Ee : α → Pd} {xs : β1 → List α} {o1 : β1 → β2 → Option Int} {o2 : β1 → β2 → β3 → Option Int} {Δ1 : β1 → Δs} {Δ2 : β1 → β2 → Δs} {Δ3 : β1 → β2 → β3 → Δs}
end
section
variable {a b : Expr} {pos : Pos} {β1 β2 α : Type} {T : Option γ} {k1 : β1 → Option γ} {k : β1 × β2 → Option γ} {Δ1 : β1 → Δs} {Δ2 : β1 → β2 → Δs} {Ee : α → Pd} {xs : β1 → List α} {ys : β1 → β2 → List α}
end
section
variable {a b : Expr} {pos : Pos} {β1 β2 α : Type} [DecidableEq α] {T : Option γ} {k1 : β1 → Option γ} {k : β1 × β2 → Option γ} {Δ1 : β1 → Δs} {Δ2 : β1 → β2 → Δs} {E : α → Pd} {x : β1 → α} {y : β1 → β2 → List α}
end
section
variable {o e : Expr} {apos cpos : Pos} {β1 β2 : Type} {T : Option γ} {k1 : β1 → Option γ} {Δ1 : β1 → Δs} {Δ2 : β1 → β2 → Δs} {xs : β1 → List Str} {y : β1 → β2 → Str}
end
end
end L3
end
section
set_option maxHeartbeats 4000000
set_option autoImplicit true
namespace L3
open PySem PySem.Spec PyProof.Rows L2
section
variable {X : Cx} {W : Bool} {F : Fm} {Γ : Gm} {Δ : Δs} {γ : Type}
section
variable {a : Expr} {pos p : Pos} {β : Type} {T : Option γ} {Δ1 : β → Δs} {E1 : β → Pd} {xs : β → List (List Int)} {k : β × List Int → Option γ}
end
end
end L3
end
section
set_option maxHeartbeats 4000000
set_option autoImplicit true
namespace L3
open PySem PySem.Spec PyProof.Rows L2
open PySem.AutoSeq1 (wpAny_loadPart')
section
variable {prog : Program} {w : World} {A : Around} {E : Value → Shared → Prop} {s : Shared}
end
section
variable {X : Cx} {W : Bool} {F : Fm} {Γ : Gm} {Δ : Δs} {γ : Type}
section
variable {a b : Expr} {pos : Pos} {β1 β2 α : Type} [DecidableEq α] {T : Option γ} {k1 : β1 → Option γ} {k : β1 × β2 → Option γ} {Δ1 : β1 → Δs} {Δ2 : β1 → β2 → Δs} {E : α → Pd} {x : β1 → α} {y : β1 → β2 → List α} {E2 : β1 → β2 → Pd}
end
end
end L3
end
section
set_option maxHeartbeats 4000000
set_option autoImplicit true
namespace L3
open PySem PySem.Spec PyProof.Rows L2
section
variable {X : Cx} {W : Bool} {F : Fm} {Γ : Gm} {Δ : Δs} {γ : Type} {a : Expr} {n p pos} {β α1 α2 α3 α4 α5 : Type} {T : Option γ} {k : β → Option γ} {A1 : α1 → Pd} {A2 : α2 → Pd} {A3 : α3 → Pd} {A4 : α4 → Pd} {A5 : α5 → Pd} {Δ1 : β → Δs} {x : β → α1 × α2 × α3 × α4 × α5}
end
section
variable {X : Cx} {W : Bool} {F : Fm} {Γ : Gm} {Δ : Δs} {γ : Type} {a : Expr} {n p pos} {β α1 α2 α3 α4 α5 α6 : Type} {T : Option γ} {k : β → Option γ} {A1 : α1 → Pd} {A2 : α2 → Pd} {A3 : α3 → Pd} {A4 : α4 → Pd} {A5 : α5 → Pd} {A6 : α6 → Pd} {Δ1 : β → Δs} {x : β → α1 × α2 × α3 × α4 × α5 × α6}
end
section
variable {X : Cx} {W : Bool} {F : Fm} {Γ : Gm} {Δ : Δs} {γ : Type} {a : Expr} {n p pos} {β α1 α2 α3 α4 α5 α6 α7 : Type} {T : Option γ} {k : β → Option γ} {A1 : α1 → Pd} {A2 : α2 → Pd} {A3 : α3 → Pd} {A4 : α4 → Pd} {A5 : α5 → Pd} {A6 : α6 → Pd} {A7 : α7 → Pd} {Δ1 : β → Δs} {x : β → α1 × α2 × α3 × α4 × α5 × α6 × α7}
end
section
variable {X : Cx} {W : Bool} {F : Fm} {Γ : Gm} {Δ : Δs} {γ : Type}
section
variable {a : Expr} {n p p2 pos : Pos} {β α δ : Type} {T : Option γ} {k : β → Option γ} {E : α → Pd} {G : δ → Pd} {Δ1 : β → Δs}
end
variable {N : Fn γ} {rest : List Stmt}
end
end L3
end
section
set_option maxHeartbeats 4000000
set_option autoImplicit true
namespace L3
open PySem PySem.Spec PyProof.Rows L2 PySem.SxX
def TpK : HO → Prop
  | .tup _ => True
  | .frz _ (.tup _) => True
  | _ => False
def Tpy (H H' : Hp) : Prop := ∀ a o, TpK o → H a = some o → H' a = some o
section
variable {X : Cx} {W : Bool} {F : Fm} {Γ : Gm} {Δ : Δs} {γ : Type}
end
section
variable {X : Cx} {CX : CXT} {k : Nat} {f C : Addr} {fd : FuncData} {ps : List Str} {sp : Sp} {x : Str} {p pos : Pos} {e : Expr} {es : List Expr} {t : TA}
end
section
variable {X : Cx} {W : Bool} {F : Fm} {Γ : Gm} {Δ : Δs} {γ ε : Type}
variable {fI : Addr} {kk : Nat} {fd : FuncData} {ps : List Str} {α ρ β : Type} {cn : Str} {A : α → List Pd} {Mf : α → Option (Except ε ρ)} {ns : List Str} {R : ρ → List Pd} {C : Addr} {p pos : Pos} {e : Expr} {es : List Expr} {T : Option γ} {xs : β → α} {kc : β × ρ → Option γ} {D : β × ρ → Od} {Kx : Xk ε}
end
section
variable {X : Cx} {F : Fm} {Γ : Gm} {Δ : Δs} {γ ε : Type} {N : Fn γ} {rest : List Stmt} {ιx : ε → γ} {Kx : Xk ε} {Δx : Δs} {Nx : SS → Hp → Prop} {Wx : WX}
end
end L3
end
section
set_option maxHeartbeats 4000000
set_option autoImplicit true
namespace L3
open PySem PySem.Spec PyProof.Rows L2
section
variable {X : Cx} {W : Bool} {F : Fm} {Γ : Gm} {Δ : Δs} {γ : Type}
end
section
variable {X : Cx} {W : Bool} {F : Fm} {Γ : Gm} {Δ : Δs} {γ : Type} {a : Expr} {pos p : Pos} {β : Type} {T : Option γ} {Δ1 : β → Δs} {E1 : β → Pd} {xs : β → List Int} {k : β × Int → Option γ}
end
end L3
end
section
set_option maxHeartbeats 4000000
set_option autoImplicit true
namespace L3
open PySem PySem.Spec PyProof.Rows L2 PySem.SxX
section
variable {X : Cx} {W : Bool} {F : Fm} {Γ : Gm} {Δ : Δs} {γ : Type}
section
variable {a : Expr} {n} {p pos : Pos} {β α1 α2 α3 α4 α5 : Type} {T : Option γ} {k : β → Option γ} {Δ1 : β → Δs} {A : α1 → Pd} {B : α2 → Pd} {C : α3 → Pd} {D : α4 → Pd} {E : α5 → Pd}
end
end
section
variable {P : Pd → V → Prop} {gV : List V → List V → List V} {As : List Pd} {vs zs : List V}
end
section
variable {X : Cx} {CX : CXT} {k n : Nat} {f C : Addr} {fd : FuncData} {ps ks : List Str} {sp : Sp} {x : Str} {p pos : Pos} {e : Expr} {es : List Expr} {kws : List Keyword} {t tk : TA} {g : List Value → List Value → List Value} {gV : List V → List V → List V}
end
section
variable {X : Cx} {W : Bool} {F : Fm} {Γ : Gm} {Δ : Δs} {γ ε : Type}
variable {fI : Addr} {kk n : Nat} {fd : FuncData} {ps ks : List Str} {α ρ β1 β2 : Type} {cn : Str} {A : α → List Pd} {Mf : α → Option (Except ε ρ)} {ns : List Str} {R : ρ → List Pd} {C : Addr} {p pos : Pos} {e : Expr} {es : List Expr} {kws : List Keyword} {T : Option γ} {kc : (β1 × β2) × ρ → Option γ} {D : (β1 × β2) × ρ → Od} {Kx : Xk ε} {g : List Value → List Value → List Value} {gV : List V → List V → List V}
end
end L3
end
section
set_option maxHeartbeats 4000000
set_option autoImplicit true
namespace L3
open PySem PySem.Spec PyProof.Rows L2 PySem.SxX L2H
section
variable {P : Program} {w : World} {K : PySem.W.Frag} {mg : Str → Option Value} {base : Heap} {CX : CXT} {k : Nat} {f : Addr} {fd : FuncData} {N ps : List Str} {sp : Sp} {x qual : Str} {params : Arguments} {body : List Stmt} {scope : Scope} {dvs : List V} {kws : List (Str × V)}
end
section
variable {X : Cx} {CX : CXT} {k : Nat} {f : Addr} {fd : FuncData} {ps : List Str} {sp : Sp}
end
section
variable {X : Cx} {W : Bool} {F : Fm} {Γ : Gm} {Δ : Δs} {γ : Type}
end
end L3
end
section
set_option maxHeartbeats 4000000
set_option autoImplicit true
namespace L3
open PySem PySem.Spec PyProof.Rows L2
section
variable {X : Cx} {W : Bool} {F : Fm} {Γ : Gm} {Δ : Δs} {γ : Type}
end
end L3
end
section
set_option maxHeartbeats 4000000
set_option autoImplicit true
namespace L3
open PySem PySem.Spec PyProof.Rows L2
def FlatD (d : Od) : Prop := ∀ G H H' v, d.pr G H v → (∀ a ∈ G, H' a = H a) → Tpy H H' → d.pr G H' v
inductive FlatDs : List Od → Prop
  | nil : FlatDs []
  | cons {d : Od} {ds : List Od} : FlatD d → FlatDs ds → FlatDs (d :: ds)
theorem FlatDs.own {H H' : Hp} (t : Tpy H H') : ∀ {ds : List Od} {vs : List V} {gs : List (List Addr)}, FlatDs ds → Own3 (fun d : Od => d) H ds vs gs → (∀ a ∈ gs.flatten, H' a = H a) → Own3 (fun d : Od => d) H' ds vs gs
  | _, _, _, _, .nil, _ => .nil
  | _, _, _, .cons f fs, .cons r q, k => by
    rw [List.flatten_cons] at k
    exact .cons (f _ H H' _ r (fun a ha => k a (List.mem_append_left _ ha)) t) (FlatDs.own t fs q fun a ha => k a (List.mem_append_right _ ha))
section
variable {X : Cx} {W : Bool} {F : Fm} {Γ : Gm} {Δ : Δs} {γ : Type}
variable {N : Fn γ} {rest : List Stmt}
end
section
variable {X : Cx} {W : Bool} {F : Fm} {Γ : Gm} {Δ : Δs} {γ : Type}
end
end L3
end
section
set_option maxHeartbeats 4000000
set_option autoImplicit true
namespace L3
open PySem PySem.Spec PyProof.Rows L2
section
variable {X : Cx} {W : Bool} {F : Fm} {Γ : Gm} {Δ : Δs} {γ : Type}
section
variable {a b : Expr} {pos : Pos} {β1 β2 : Type} {T : Option γ} {k1 : β1 → Option γ} {k : β1 × β2 → Option γ} {Δ1 : β1 → Δs} {Δ2 : β1 → β2 → Δs} {xs : β1 → List Int} {ys : β1 → β2 → List Int}
end
end
end L3
end
section
set_option maxHeartbeats 4000000
namespace L3
open PySem PySem.Spec PyProof.Rows L2
section
variable {prog : Program} {w : World} {A : Around} {R : Result → Shared → Prop} {s : Shared} {kx vx t0 i0 t1 i1 : Expr} {ifs0 ifs1 : List Expr} {scope : Scope} {pos : Pos} {it acc : Value} {env : Env}
end
end L3
end
section
set_option maxHeartbeats 4000000
namespace L3
open PySem PySem.Spec PyProof.Rows L2
section
variable {X : Cx}
end
end L3
end
section
set_option maxHeartbeats 4000000
namespace L3
open PySem PySem.Spec PyProof.Rows L2
section
variable {κ δ : Type} [DecidableEq κ] [Ky κ]
variable {X : Cx} {F : Fm} {Γ : Gm} {Δ : Δs} {γ : Type}
variable {α α2 β β4 β5 β6 : Type} {g g2 : TG} {own : List (Str × Nat)} {vs1 : List Nat} {T : Option γ} {k : β × List (κ × δ) → Option γ} {Ex : α → Pd} {Ex2 : α2 → Pd} {D : δ → Od} {bd : Gm → α → Gm} {bd2 : Gm → α2 → Gm} {xs : β → List α} {C : β → Δs} {f : β → α → Option (List (κ × δ))}
    {ys : β → α → β4 → List α2} {h : β → α → β4 → α2 → Option (κ × δ)} {T2 : β → α → β4 → α2 → β5 → Option (κ × δ)} {ky : β → α → β4 → α2 → β5 → κ} {vy : β → α → β4 → α2 → β5 → β6 → δ}
end
end L3
namespace L3
open PySem PySem.Spec PyProof.Rows L2
section
variable {X : Cx} {W : Bool} {F : Fm} {Γ : Gm} {Δ : Δs} {γ : Type}
end
end L3
end
section
set_option maxHeartbeats 4000000
set_option autoImplicit true
namespace L3
open PySem PySem.Spec PyProof.Rows L2
section
variable {X : Cx} {W : Bool} {F : Fm} {Γ : Gm} {Δ : Δs} {γ : Type}
end
end L3
end
section
set_option maxHeartbeats 4000000
set_option autoImplicit true
namespace L3
open PySem PySem.Spec PyProof.Rows L2
section
variable {X : Cx} {W : Bool} {F : Fm} {Γ : Gm} {Δ : Δs} {γ : Type}
variable {N : Fn γ}
end
end L3
end
section
set_option maxHeartbeats 4000000
set_option autoImplicit true
namespace L3
open PySem PySem.Spec PyProof.Rows L2
section
variable {α β α' β' δ : Type} {E : α → Pd} {G : β → Pd} {E' : α' → Pd} {G' : β' → Pd} {D : δ → Pd}
end
section
variable {X : Cx} {W : Bool} {F : Fm} {Γ : Gm} {Δ : Δs} {γ : Type}
section
variable {α β : Type} {E : α → Pd} {G : β → Pd} {A : α → Od} {B : β → Od}
end
section
variable {a b : Expr} {pos p : Pos} {β1 β2 : Type} {T : Option γ} {k1 : β1 → Option γ} {k : β1 × β2 → Option γ} {c : β1 → Bool} {d : β1 → β2 → Bool} {Δ1 : β1 → Δs} {Δ2 : β1 → β2 → Δs}
end
end
end L3
end
section
set_option maxHeartbeats 4000000
set_option autoImplicit true
namespace L3
open PySem PySem.Spec PyProof.Rows L2
section
variable {α β δ α' : Type} {A : α → Od} {B : β → Od} {D : δ → Od} {E : α → Pd} {E' : α' → Pd}
end
section
variable {X : Cx} {W : Bool} {F : Fm} {Γ : Gm} {Δ : Δs} {γ : Type}
end
end L3
end
section
set_option maxHeartbeats 4000000
set_option autoImplicit true
namespace L3
open PySem PySem.Spec PyProof.Rows L2
section
variable {X : Cx} {W : Bool} {F : Fm} {Γ : Gm} {Δ : Δs} {γ : Type}
section
variable {α β β2 β3 δ S : Type} {g : TG} {own : List (Str × Nat)} {T : Option γ} {k0 : β → Option γ} {k : β × (List δ × S) → Option γ} {out : β × (List δ × S) → List δ} {Ex : α → Pd} {Ee : δ → Pd} {bd : Gm → α → Gm} {xs : β → List α} {Δ1 : β → Δs} {C : β → S → Δs} {s0 : β → S} {f : β → α → S → Option (Option δ × S)}
    {c : β → α → S → β2 → Bool} {s2 : β → α → S → β2 → S} {T2 : β → α → S → β2 → Option (Option δ × S)} {y : β → α → S → β2 → β3 → δ} {s3 : β → α → S → β2 → β3 → S}
end
end
end L3
end
section
set_option maxHeartbeats 4000000
set_option autoImplicit true
namespace L3
open PySem PySem.Spec PyProof.Rows L2
section
variable {X : Cx} {W : Bool} {F : Fm} {Γ : Gm} {Δ : Δs} {γ : Type}
section
variable {a b : Expr} {pos : Pos} {β1 β2 : Type} {T : Option γ} {k1 : β1 → Option γ} {k : β1 × β2 → Option γ} {Δ1 : β1 → Δs} {Δ2 : β1 → β2 → Δs} {i : β1 → Int} {v0 : V} {xs : β1 → β2 → List Int} {prm : Option Nat}
end
variable {α ρ β1 β2 : Type} {fI : Addr} {kk n : Nat} {fd : FuncData} {ps ks : List Str} {cn : Str} {A : α → List Pd} {Mf : α → Option ρ} {ns : List Str} {R : ρ → List Pd} {C : Addr} {p pos : Pos} {e : Expr} {es : List Expr} {kws : List Keyword} {T : Option γ} {kc : (β1 × β2) × ρ → Option γ} {D : (β1 × β2) × ρ → Od} {g : List Value → List Value → List Value} {gV : List V → List V → List V}
end
end L3
end
section
set_option maxHeartbeats 4000000
set_option autoImplicit true
namespace L3
open PySem PySem.Spec PyProof.Rows L2
section
variable {X : Cx} {W : Bool} {F : Fm} {Γ : Gm} {Δ : Δs} {γ : Type}
end
end L3
end
section
set_option maxHeartbeats 4000000
set_option autoImplicit true
namespace L3
open PySem PySem.Spec PyProof.Rows L2
section
variable {X : Cx} {W : Bool} {F : Fm} {Γ : Gm} {Δ : Δs} {γ : Type}
end
end L3
end
section
set_option maxHeartbeats 1000000
namespace L3
open PySem PySem.Spec PyProof.Rows L2 RZ
open PySem.Sem (wp)
section
variable {w : World} {prog : Program} {s : Shared} {A : Around} {E : Value → Shared → Prop}
end
section
variable {w : World} {prog : Program} {s : Shared} {A : Around} {E : Value → Shared → Prop}
end
section
variable {X : Cx} {W : Bool} {F : Fm} {Γ : Gm} {Δ : Δs} {γ : Type}
end
end L3
end
section
set_option maxHeartbeats 4000000
set_option autoImplicit true
namespace L3
open PySem PySem.Spec PyProof.Rows L2
section
variable {α1 α2 α3 α4 α5 : Type} {A : α1 → Pd} {B : α2 → Pd} {C : α3 → Pd} {D : α4 → Pd} {E : α5 → Pd}
end
section
variable {X : Cx} {W : Bool} {F : Fm} {Γ : Gm} {Δ : Δs} {γ : Type}
end
section
variable {α1 α2 α3 α4 α5 : Type} {A : α1 → Pd} {B : α2 → Pd} {C : α3 → Pd} {D : α4 → Pd} {E : α5 → Pd}
end
section
variable {X : Cx} {W : Bool} {F : Fm} {Γ : Gm} {Δ : Δs} {γ : Type} {a b : Expr} {pos : Pos} {β1 β2 : Type} {T : Option γ} {k1 : β1 → Option γ} {k : β1 × β2 → Option γ} {Δ1 : β1 → Δs} {Δ2 : β1 → β2 → Δs}
end
section
variable {X : Cx} {W : Bool} {F : Fm} {Γ : Gm} {Δ : Δs} {γ : Type} {a b : Expr} {pos : Pos} {α β1 β2 : Type} {Ee : α → Pd} {T : Option γ} {k1 : β1 → Option γ} {k : β1 × β2 → Option γ} {Δ1 : β1 → Δs} {Δ2 : β1 → β2 → Δs}
end
section
variable {X : Cx} {W : Bool} {F : Fm} {Γ : Gm} {Δ : Δs} {γ : Type}
end
end L3
end
section
set_option maxHeartbeats 4000000
set_option synthInstance.maxSize 2000
noncomputable section
namespace My
open PySem PySem.Spec PyProof.Rows L2 L3
end My
end
section
set_option maxHeartbeats 4000000
set_option synthInstance.maxSize 2000
namespace My
open PySem PySem.Spec PyProof.Rows L2 L3
def top (i : Nat) : Stmt := PySem.Challenge.pw_curbdesk_k46_rests_on.main.body.getD i (.Pass ⟨0, 0, 0, 0⟩)
def rsL : List Str := ["UnknownLine"]
def csL : List Str := ["UnknownLine", "UnknownKey", "BadLine", "ValueError", "DeskError"]
end My
end
section
set_option maxHeartbeats 4000000
set_option synthInstance.maxSize 2000
namespace My
open PySem PySem.Spec PyProof.Rows L2 L3
section
variable {P : Program} {w : World} {K : PySem.W.Frag} {mg : Str → Option Value} {base : Heap}
end
end My
end
section
set_option maxHeartbeats 4000000
set_option synthInstance.maxSize 2000
namespace My
open PySem PySem.Spec PyProof.Rows L2 L3
section
variable {P : Program} {w : World} {K : PySem.W.Frag} {mg : Str → Option Value} {base : Heap}
end
end My
end
section
set_option maxHeartbeats 4000000
set_option synthInstance.maxSize 2000
namespace My
open PySem PySem.Spec PyProof.Rows L2 L3
section
variable {P : Program} {w : World} {K : PySem.W.Frag} {mg : Str → Option Value} {base : Heap}
end
end My
end
section
set_option maxHeartbeats 4000000
set_option synthInstance.maxSize 2000
namespace My
open PySem PySem.Spec PyProof.Rows L2 L3
section
variable {P : Program} {w : World} {K : PySem.W.Frag} {mg : Str → Option Value} {base : Heap}
end
end My
end
section
set_option maxHeartbeats 4000000
set_option synthInstance.maxSize 2000
namespace My
open PySem PySem.Spec PyProof.Rows L2 L3
section
variable {P : Program} {w : World} {K : PySem.W.Frag} {mg : Str → Option Value} {base : Heap}
end
end My
end
section
set_option maxHeartbeats 4000000
set_option synthInstance.maxSize 2000
namespace My
open PySem PySem.Spec PyProof.Rows L2 L3
section
variable {P : Program} {w : World} {K : PySem.W.Frag} {mg : Str → Option Value} {base : Heap}
end
end My
end
section
set_option maxHeartbeats 4000000
set_option synthInstance.maxSize 2000
namespace My
open PySem PySem.Spec PyProof.Rows L2 L3
section
variable {P : Program} {w : World} {K : PySem.W.Frag} {mg : Str → Option Value} {base : Heap}
end
end My
end
section
set_option maxHeartbeats 4000000
set_option synthInstance.maxSize 2000
namespace My
open PySem PySem.Spec PyProof.Rows L2 L3
section
variable {P : Program} {w : World} {K : PySem.W.Frag} {mg : Str → Option Value} {base : Heap}
end
end My
end
section
set_option maxHeartbeats 4000000
set_option synthInstance.maxSize 2000
namespace My
open PySem PySem.Spec PyProof.Rows L2 L3
section
variable {P : Program} {w : World} {K : PySem.W.Frag} {mg : Str → Option Value} {base : Heap}
end
end My
end
section
set_option maxHeartbeats 4000000
set_option synthInstance.maxSize 2000
namespace My
open PySem PySem.Spec PyProof.Rows L2 L3
section
variable {P : Program} {w : World} {K : PySem.W.Frag} {mg : Str → Option Value} {base : Heap}
end
end My
end
section
set_option maxHeartbeats 4000000
set_option synthInstance.maxSize 2000
namespace My
open PySem PySem.Spec PyProof.Rows L2 L3
section
variable {P : Program} {w : World} {K : PySem.W.Frag} {mg : Str → Option Value} {base : Heap}
end
end My
end
section
set_option maxHeartbeats 4000000
set_option synthInstance.maxSize 2000
namespace My
open PySem PySem.Spec PyProof.Rows L2 L3
section
variable {P : Program} {w : World} {K : PySem.W.Frag} {mg : Str → Option Value} {base : Heap}
end
end My
end
section
set_option maxHeartbeats 4000000
set_option synthInstance.maxSize 2000
namespace My
open PySem PySem.Spec PyProof.Rows L2 L3
section
variable {P : Program} {w : World} {K : PySem.W.Frag} {mg : Str → Option Value} {base : Heap}
end
end My
end
section
set_option maxHeartbeats 4000000
set_option synthInstance.maxSize 2000
namespace My
open PySem PySem.Spec PyProof.Rows L2 L3
section
variable {P : Program} {w : World} {K : PySem.W.Frag} {mg : Str → Option Value} {base : Heap}
end
end My
end
section
set_option maxHeartbeats 4000000
set_option synthInstance.maxSize 2000
namespace My
open PySem PySem.Spec PyProof.Rows L2 L3
section
variable {P : Program} {w : World} {K : PySem.W.Frag} {mg : Str → Option Value} {base : Heap}
end
end My
end
section
set_option maxHeartbeats 4000000
set_option synthInstance.maxSize 2000
namespace My
open PySem PySem.Spec PyProof.Rows L2 L3
section
variable {P : Program} {w : World} {K : PySem.W.Frag} {mg : Str → Option Value} {base : Heap}
end
end My
end
section
set_option maxHeartbeats 4000000
set_option synthInstance.maxSize 2000
namespace My
open PySem PySem.Spec PyProof.Rows L2 L3
section
variable {P : Program} {w : World} {K : PySem.W.Frag} {mg : Str → Option Value} {base : Heap}
end
end My
end
section
set_option maxHeartbeats 4000000
set_option synthInstance.maxSize 2000
namespace My
open PySem PySem.Spec PyProof.Rows L2 L3
section
variable {P : Program} {w : World} {K : PySem.W.Frag} {mg : Str → Option Value} {base : Heap}
end
end My
end
section
set_option maxHeartbeats 4000000
set_option synthInstance.maxSize 2000
namespace My
open PySem PySem.Spec PyProof.Rows L2 L3
section
variable {P : Program} {w : World} {K : PySem.W.Frag} {mg : Str → Option Value} {base : Heap}
end
end My
end
section
set_option maxHeartbeats 4000000
set_option synthInstance.maxSize 2000
namespace My
open PySem PySem.Spec PyProof.Rows L2 L3
section
variable {P : Program} {w : World} {K : PySem.W.Frag} {mg : Str → Option Value} {base : Heap}
end
end My
end
section
set_option maxHeartbeats 4000000
set_option synthInstance.maxSize 2000
namespace My
open PySem PySem.Spec PyProof.Rows L2 L3
section
variable {P : Program} {w : World} {K : PySem.W.Frag} {mg : Str → Option Value} {base : Heap}
end
end My
end
section
namespace My
open PySem PySem.Spec PyProof.Rows L2 L3
section
variable {α β γ S ρ δ : Type}
end
end My
end
section
namespace My
open PySem PySem.Spec PyProof.Rows L2 L3
section
variable {κ α : Type} [DecidableEq κ]
end
end My
end
section
namespace My
open PySem PySem.Spec PyProof.Rows L2 L3
end My
end
section
namespace My
open PySem PySem.Spec PyProof.Rows L2 L3
section
variable {κ α : Type} [DecidableEq κ]
end
section
variable {α S ρ δ : Type}
end
abbrev Box := List (Str × List Int)
end My
end
section
namespace My
open PySem PySem.Spec PyProof.Rows L2 L3
abbrev EL := Int ⊕ (Str ⊕ List Int)
abbrev CT := Str × (Str ⊕ List EL)
abbrev Ln := (Str × Box × Str) ⊕ ((Str × Box × Str × CT) ⊕ (Str × Box × Str × Int × Int))
end My
end
section
namespace My
open PySem PySem.Spec PyProof.Rows L2 L3
section
variable {Ls : List Ln} {R : List (List Str)} {k : Nat}
end
end My
end
section
namespace My
open PySem PySem.Spec PyProof.Rows L2 L3
end My
end
section
namespace My
open PySem PySem.Spec PyProof.Rows L2 L3
end My
end
section
set_option maxHeartbeats 0
namespace My
open PySem PySem.Spec PyProof.Rows L2 L3
def d_used_marks : He.DefD := ⟨("used_marks", none), "used_marks", "used_marks", defArgs (top 6), defBody (top 6), defScope (top 6), [], []⟩
def d_rests_on : He.DefD := ⟨("rests_on", none), "rests_on", "rests_on", defArgs (top 7), defBody (top 7), defScope (top 7), [], []⟩
def d__law_is_integer : He.DefD := ⟨("_law_is_integer", none), "_law_is_integer", "_law_is_integer", defArgs (top 9), defBody (top 9), defScope (top 9), [], []⟩
def d__law_stream : He.DefD := ⟨("_law_stream", none), "_law_stream", "_law_stream", defArgs (top 10), defBody (top 10), defScope (top 10), [], []⟩
def d__law_next : He.DefD := ⟨("_law_next", none), "_law_next", "_law_next", defArgs (top 11), defBody (top 11), defScope (top 11), [], []⟩
def d__law_word : He.DefD := ⟨("_law_word", none), "_law_word", "_law_word", defArgs (top 12), defBody (top 12), defScope (top 12), [], []⟩
def d__law_number : He.DefD := ⟨("_law_number", none), "_law_number", "_law_number", defArgs (top 13), defBody (top 13), defScope (top 13), [], []⟩
def d__law_drawn_side : He.DefD := ⟨("_law_drawn_side", none), "_law_drawn_side", "_law_drawn_side", defArgs (top 14), defBody (top 14), defScope (top 14), [], []⟩
def d__law_drawn_sides : He.DefD := ⟨("_law_drawn_sides", none), "_law_drawn_sides", "_law_drawn_sides", defArgs (top 15), defBody (top 15), defScope (top 15), [], []⟩
def d__law_drawn_certificate : He.DefD := ⟨("_law_drawn_certificate", none), "_law_drawn_certificate", "_law_drawn_certificate", defArgs (top 16), defBody (top 16), defScope (top 16), [], []⟩
def d__law_log_line : He.DefD := ⟨("_law_log_line", none), "_law_log_line", "_law_log_line", defArgs (top 17), defBody (top 17), defScope (top 17), [], []⟩
def d__law_certificate_copy : He.DefD := ⟨("_law_certificate_copy", none), "_law_certificate_copy", "_law_certificate_copy", defArgs (top 18), defBody (top 18), defScope (top 18), [], []⟩
def d__law_copied : He.DefD := ⟨("_law_copied", none), "_law_copied", "_law_copied", defArgs (top 19), defBody (top 19), defScope (top 19), [], []⟩
def d__law_line_copy : He.DefD := ⟨("_law_line_copy", none), "_law_line_copy", "_law_line_copy", defArgs (top 20), defBody (top 20), defScope (top 20), [], []⟩
def d__law_ascending : He.DefD := ⟨("_law_ascending", none), "_law_ascending", "_law_ascending", defArgs (top 21), defBody (top 21), defScope (top 21), [], []⟩
def d__law_same_words : He.DefD := ⟨("_law_same_words", none), "_law_same_words", "_law_same_words", defArgs (top 22), defBody (top 22), defScope (top 22), [], []⟩
def d__law_rests : He.DefD := ⟨("_law_rests", none), "_law_rests", "_law_rests", defArgs (top 23), defBody (top 23), defScope (top 23), [], []⟩
def d__law_unknown : He.DefD := ⟨("_law_unknown", none), "_law_unknown", "_law_unknown", defArgs (top 24), defBody (top 24), defScope (top 24), [], []⟩
def d__law_keys_hold : He.DefD := ⟨("_law_keys_hold", none), "_law_keys_hold", "_law_keys_hold", defArgs (top 25), defBody (top 25), defScope (top 25), [], []⟩
def d__law_long_holds : He.DefD := ⟨("_law_long_holds", none), "_law_long_holds", "_law_long_holds", defArgs (top 26), defBody (top 26), defScope (top 26), [], []⟩
def d_law : He.DefD := ⟨("law", none), "law", "law", defArgs (top 27), defBody (top 27), defScope (top 27), [], []⟩
def cBody (s : Stmt) : List Stmt := match s with
  | .ClassDef _ _ _ b _ _ _ _ _ _ _ => b
  | _ => []
def ini (i : Nat) : Stmt := (cBody (top i)).getD 0 (.Pass ⟨0, 0, 0, 0⟩)
def x_UnknownLine : XD := ⟨"UnknownLine", "UnknownLine.__init__", defArgs (ini 4), defBody (ini 4), defScope (ini 4), ["number"]⟩
def xs : List XD := [x_UnknownLine]
def fn : List He.DefD := [d_used_marks, d_rests_on, d__law_is_integer, d__law_stream, d__law_next, d__law_word, d__law_number, d__law_drawn_side, d__law_drawn_sides, d__law_drawn_certificate, d__law_log_line, d__law_certificate_copy, d__law_copied, d__law_line_copy, d__law_ascending, d__law_same_words, d__law_rests, d__law_unknown, d__law_keys_hold, d__law_long_holds, d_law]
def fa : List He.Fa := [.glo "used_marks", .glo "rests_on", .glo "_law_is_integer", .glo "_law_stream", .glo "_law_next", .glo "_law_word", .glo "_law_number", .glo "_law_drawn_side", .glo "_law_drawn_sides", .glo "_law_drawn_certificate", .glo "_law_log_line", .glo "_law_certificate_copy", .glo "_law_copied", .glo "_law_line_copy", .glo "_law_ascending", .glo "_law_same_words", .glo "_law_rests", .glo "_law_unknown", .glo "_law_keys_hold", .glo "_law_long_holds", .glo "law", .glo "UnknownLine", .glo "UnknownKey", .glo "BadLine", .glo "DeskError", .free "ValueError", .free "bool", .free "dict", .free "int", .free "isinstance", .free "len", .free "list", .free "max", .free "min", .free "range", .free "sorted", .free "str", .free "super", .free "zip"]
def loose0 : List PySem.Str := ["DeskError", "UnknownKey", "BadLine", "UnknownLine", "used_marks", "rests_on", "_law_is_integer", "_law_stream", "_law_next", "_law_word", "_law_number", "_law_drawn_side", "_law_drawn_sides", "_law_drawn_certificate", "_law_log_line", "_law_certificate_copy", "_law_copied", "_law_line_copy", "_law_ascending", "_law_same_words", "_law_rests", "_law_unknown", "_law_keys_hold", "_law_long_holds"]
def loose : List PySem.Str := loose0
abbrev R : PySem.W.OpenRow := PySem.W.OpenLaw.row PySem.Challenge.rw_curbdesk_k46_rests_on
abbrev hk : PySem.W.Hook := hookX 4 R.prog fa fn xs rsL csL
def ob (s : PySem.W.SharedT) : AlX := obsXG 4 R.prog fa fn xs rsL csL (HandSHeadRun.getT s)
theorem ob_eq (s : PySem.W.SharedT) : ob s = hk.obs s.abs := obsXG_eq (HandSHeadRun.getT_eq s)
theorem run (w : World) : HandSHeadRun.RunEq R (PySem.W.view R.prog [27]) hk ob 30000 loose w := by
  intro os
  kernel_rfl
end My
end
section
set_option maxHeartbeats 4000000
namespace L3
open PySem PySem.Spec PyProof.Rows L2
theorem Fzs.refl (H : Hp) : Fzs H H := fun _ _ _ h => h
theorem Gr.refl (H : Hp) : Gr H H := fun _ _ h => h
theorem Gr.fzs {H H' : Hp} (g : Gr H H') : Fzs H H' := fun a o _ h => g a o h
theorem Fzs.mut {H : Hp} {p : Addr} {o u : HO} (h : H p = some o) (m : ¬ Pst o) : Fzs H (upd H p u) := fun a x px e => by
  have : a ≠ p := fun z => by subst z; rw [h] at e; cases e; exact m px
  rw [upd_ne this]; exact e
def pBl (b : Bool) : Pd := ⟨fun _ v => v = .bl b, fun _ h => h⟩
def pNon : Pd := ⟨fun _ v => v = .non, fun _ h => h⟩
def pV (u : V) : Pd := ⟨fun _ v => v = u, fun _ h => h⟩
def pOp {α : Type} (E : α → Pd) : Option α → Pd
  | none => pNon
  | some x => E x
def pT2 {α β : Type} (E : α → Pd) (G : β → Pd) (x : α × β) : Pd where
  pr H v := ∃ a u w, v = .ref a ∧ H a = some (.tup [u, w]) ∧ (E x.1).pr H u ∧ (G x.2).pr H w
  mono := fun f ⟨a, u, w, e, h, p, q⟩ => ⟨a, u, w, e, f _ _ trivial h, (E _).mono f p, (G _).mono f q⟩
def pT3 {α β γ : Type} (E : α → Pd) (G : β → Pd) (K : γ → Pd) (x : α × β × γ) : Pd where
  pr H v := ∃ a u w z, v = .ref a ∧ H a = some (.tup [u, w, z]) ∧ (E x.1).pr H u ∧ (G x.2.1).pr H w ∧ (K x.2.2).pr H z
  mono := fun f ⟨a, u, w, z, e, h, p, q, r⟩ => ⟨a, u, w, z, e, f _ _ trivial h, (E _).mono f p, (G _).mono f q, (K _).mono f r⟩
def pD {α : Type} (E : α → Pd) (xs : List (Str × α)) : Pd where
  pr H v := ∃ a o kvs, v = .ref a ∧ H a = some (.frz o (.dK kvs)) ∧ xs.length ≤ sizeLine ∧ Paired (fun (x : Str × α) (u : Key × V) => u.1 = .inr x.1 ∧ (E x.2).pr H u.2) xs kvs
  mono := fun f ⟨a, o, vs, e, h, z, p⟩ => ⟨a, o, vs, e, f _ _ trivial h, z, paired_mono (fun x _ q => ⟨q.1, (E x.2).mono f q.2⟩) p⟩
theorem upd_dom {H : Hp} (p : Addr) (u : HO) : ∀ a o, H a = some o → ∃ z, upd H p u a = some z := fun a o e => by
  by_cases h : a = p
  · exact ⟨u, by rw [h, upd_same]⟩
  · exact ⟨o, by rw [upd_ne h, e]⟩
theorem inv_lk {X : Cx} {pins : List (Addr × Obj)} {σ : SS} {s : Shared} {Φ : Hp → Prop} : ∀ {G : List Addr} {H : Hp}, Inv X pins σ H s → tLk G Φ H → ∃ H', Inv X pins σ H' s ∧ Φ H'
  | [], H, I, h => ⟨H, I, h⟩
  | _ :: _, _, I, ⟨u, h, m, k⟩ => by
    obtain ⟨o, I'⟩ := I.lock h m
    exact inv_lk I' (k o)
theorem lk_fzs {G : List Addr} {H H1 : Hp} (hm : ∀ a ∈ G, ∃ o, H a = some o ∧ Mut (some o)) (h1 : ∀ a, a ∉ G → H1 a = H a) : Fzs H H1 := fun a o p e => by
  rw [h1 a fun ha => ?_]
  · exact e
  · obtain ⟨u, eu, m⟩ := hm a ha
    rw [e] at eu
    cases eu
    exact Mut.npst m p
theorem one_cells {p : Addr} {G : List Addr} {H : Hp} {u : HO} (eg : G = [p]) (h : H p = some u) (m : Mut (some u)) : ∀ a ∈ G, ∃ o, H a = some o ∧ Mut (some o) := fun a ha => by
  rw [eg] at ha
  rw [List.mem_singleton.mp ha]
  exact ⟨_, h, m⟩
def oL {α : Type} (E : α → Pd) (xs : List α) : Od where
  pr G H v := ∃ p vs, G = [p] ∧ v = .ref p ∧ H p = some (.lst vs) ∧ xs.length ≤ sizeLine ∧ Paired (fun x u => (E x).pr H u) xs vs
  pd := pL E xs
  frame := fun ⟨p, vs, eg, ev, h, z, q⟩ k f => ⟨p, vs, eg, ev, k p (by rw [eg]; exact List.mem_singleton.mpr rfl) _ h, z, paired_mono (fun x _ => (E x).mono f) q⟩
  cells := fun ⟨p, vs, eg, ev, h, z, q⟩ => one_cells eg h trivial
  lockd := fun ⟨p, vs, eg, ev, h, z, q⟩ h1 h2 => by
    obtain ⟨o, ho⟩ := h2 p (by rw [eg]; exact List.mem_singleton.mpr rfl) _ h
    exact ⟨p, o, vs, ev, ho, z, paired_mono (fun x _ => (E x).mono (lk_fzs (one_cells eg h trivial) h1)) q⟩
def oD {α : Type} (E : α → Pd) (xs : List (Str × α)) : Od where
  pr G H v := ∃ p kvs, G = [p] ∧ v = .ref p ∧ H p = some (.dK kvs) ∧ xs.length ≤ sizeLine ∧ Paired (fun (x : Str × α) (u : Key × V) => u.1 = .inr x.1 ∧ (E x.2).pr H u.2) xs kvs
  pd := pD E xs
  frame := fun ⟨p, vs, eg, ev, h, z, q⟩ k f => ⟨p, vs, eg, ev, k p (by rw [eg]; exact List.mem_singleton.mpr rfl) _ h, z, paired_mono (fun x _ q => ⟨q.1, (E x.2).mono f q.2⟩) q⟩
  cells := fun ⟨p, vs, eg, ev, h, z, q⟩ => one_cells eg h trivial
  lockd := fun ⟨p, vs, eg, ev, h, z, q⟩ h1 h2 => by
    obtain ⟨o, ho⟩ := h2 p (by rw [eg]; exact List.mem_singleton.mpr rfl) _ h
    exact ⟨p, o, vs, ev, ho, z, paired_mono (fun x _ q => ⟨q.1, (E x.2).mono (lk_fzs (one_cells eg h trivial) h1) q.2⟩) q⟩
theorem cellsOf_app (A B : List Cel) : cellsOf (A ++ B) = cellsOf A ++ cellsOf B := by unfold cellsOf; rw [List.flatMap_append]
theorem HkO.gr {F : Fm} {Δ : List Cel} {H H' : Hp} (k : HkO F Δ H) (g : Gr H H') : HkO F Δ H' :=
  ⟨fun a o e m => g a o (k.base a o e m), fun c hc => c.d.frame (k.del c hc) (fun a _ o e => g a o e) g.fzs, k.nod, k.own, fun m hm a ha => (k.mem m hm a ha).imp fun o e => g a o e⟩
theorem Hk.gr {F : Fm} {Δ : Δs} {H H' : Hp} (k : Hk F Δ H) (g : Gr H H') : Hk F Δ H' := by
  obtain ⟨Δ0, e, k⟩ := k
  exact ⟨Δ0, e, k.gr g⟩
theorem Ok.gr {F : Fm} {Γ : Gm} {Δ : Δs} {σ : SS} {H H' : Hp} (k : Ok F Γ Δ σ H) (g : Gr H H') : Ok F Γ Δ σ H' := ⟨k.hk.gr g, k.nm.mono g.fzs⟩
theorem HkO.add {F : Fm} {Δ : List Cel} {H H' : Hp} (k : HkO F Δ H) (g : Gr H H') {G : List Addr} {v : V} {d : Od} (nd : G.Nodup) (new : ∀ a ∈ G, H a = none) (h : d.pr G H' v) : HkO F (⟨G, v, d, none⟩ :: Δ) H' :=
  (k.gr g).cons (c := ⟨G, v, d, none⟩) nd (fun a ha hb => by
    obtain ⟨o, e, _⟩ := k.isC hb
    rw [new a ha] at e
    cases e) h fun a ha => .inl (k.fresh0 (new a ha))
theorem Ok.add {W : Bool} {F : Fm} {Γ : Gm} {Δ : Δs} {σ : SS} {H H' : Hp} (k : Ok F Γ Δ σ H) (g : Gr H H') {G : List Addr} {v : V} {d : Od} (nd : G.Nodup) (new : ∀ a ∈ G, H a = none) (h : d.pr G H' v) : OkN W F Γ H v d Δ σ H' := by
  obtain ⟨⟨Δ0, e, hk⟩, n⟩ := k
  exact ⟨Δ0, G, e, hk.add g nd new h, fun _ => new, n.mono g.fzs⟩
end L3
end
section
set_option maxHeartbeats 4000000
set_option autoImplicit true
namespace L3
open PySem PySem.Spec PyProof.Rows L2
def grd {γ : Type} (c : Prop) [Decidable c] (x : Option γ) : Option γ := if c then x else none
theorem grd_some {γ : Type} {c : Prop} [Decidable c] {x : Option γ} {g : γ} (h : grd c x = some g) : c ∧ x = some g := by
  unfold grd at h
  by_cases q : c
  · rw [if_pos q] at h; exact ⟨q, h⟩
  · rw [if_neg q] at h; cases h
theorem bind_some {α γ : Type} {m : Option α} {k : α → Option γ} {g : γ} (h : m.bind k = some g) : ∃ a, m = some a ∧ k a = some g := by
  cases m with
  | none => cases h
  | some a => exact ⟨a, rfl, h⟩
theorem St.refl {W : Bool} (H : Hp) : St W H H := ⟨Fzs.refl H, fun _ => Gr.refl H, fun _ o h => ⟨o, h⟩⟩
theorem Gr.st {W : Bool} {H H' : Hp} (g : Gr H H') : St W H H' := ⟨g.fzs, fun _ => g, fun a o h => ⟨o, g a o h⟩⟩
theorem St.gr {H H' : Hp} (s : St false H H') : Gr H H' := s.kp rfl
theorem OkN.since {F : Fm} {Γ : Gm} {Δ : Δs} {σ : SS} {H0 H H' : Hp} {v : V} {d : Od} {W : Bool} (k : OkN W F Γ H v d Δ σ H') (s : St W H0 H) : OkN W F Γ H0 v d Δ σ H' := by
  obtain ⟨Δ0, G, e, k, nw, n⟩ := k
  exact ⟨Δ0, G, e, k, fun hw a ha => s.back (nw hw a ha), n⟩
def tE {β γ : Type} (W : Bool) (F : Fm) (Γ : Gm) (Δ : Δs) (T : Option γ) (k : β → Option γ) (E : β → Pd) (Δ' : β → Δs) : TE := fun σ H Q =>
  Ok F Γ Δ σ H ∧ ∃ g, T = some g ∧ ∀ b v H', k b = some g → St W H H' → Ok F Γ (Δ' b) σ H' → (E b).pr H' v → Q v H'
def tO {β γ : Type} (W : Bool) (F : Fm) (Γ : Gm) (Δ : Δs) (T : Option γ) (k : β → Option γ) (D : β → Od) (Δ' : β → Δs) : TE := fun σ H Q =>
  Ok F Γ Δ σ H ∧ ∃ g, T = some g ∧ ∀ b v H', k b = some g → St W H H' → OkN W F Γ H v (D b) (Δ' b) σ H' → Q v H'
def tAr {β γ : Type} (W : Bool) (F : Fm) (Γ : Gm) (Δ : Δs) (T : Option γ) (k : β → Option γ) (Es : β → List Pd) (Δ' : β → Δs) : TA := fun σ H Q =>
  Ok F Γ Δ σ H ∧ ∃ g, T = some g ∧ ∀ b vs H', k b = some g → St W H H' → Ok F Γ (Δ' b) σ H' → Paired (fun p v => Pd.pr p H' v) (Es b) vs → Q vs H'
def tTs {β γ : Type} (W : Bool) (F : Fm) (Γ : Gm) (Δ : Δs) (T : Option γ) (k : β → Option γ) (c : β → Bool) (Δ' : β → Δs) : TT := fun σ H Q =>
  Ok F Γ Δ σ H ∧ ∃ g, T = some g ∧ ∀ b H', k b = some g → St W H H' → Ok F Γ (Δ' b) σ H' → Q (c b) H'
def tS {γ : Type} (F : Fm) (Γ : Gm) (Δ : Δs) (N : Fn γ) (T : Option γ) : TS := fun D σ H => Ok F Γ Δ σ H ∧ ∃ g, T = some g ∧ N.fin H g D
section
variable {X : Cx}
theorem _root_.L2.PE.wk {e : Expr} {t t' : TE} (h : PE X e t) (w : ∀ σ H Q, t' σ H Q → t σ H Q) : PE X e t' := ⟨fun pins s σ H Q I q => h.run pins s σ H Q I (w σ H Q q)⟩
theorem _root_.L2.PA.wk {e : List Expr} {t t' : TA} (h : PA X e t) (w : ∀ σ H Q, t' σ H Q → t σ H Q) : PA X e t' := ⟨fun p pins s σ H Q I q => h.run p pins s σ H Q I (w σ H Q q)⟩
theorem _root_.L2.PT.wk {e : Expr} {t t' : TT} (h : PT X e t) (w : ∀ σ H Q, t' σ H Q → t σ H Q) : PT X e t' := ⟨fun pins s σ H Q I q => h.run pins s σ H Q I (w σ H Q q)⟩
theorem _root_.L2.PW.wk {e : Expr} {t t' : TT} (h : PW X e t) (w : ∀ σ H Q, t' σ H Q → t σ H Q) : PW X e t' := ⟨fun wh pins s σ H Q I q => h.run wh pins s σ H Q I (w σ H Q q)⟩
theorem _root_.L2.PSs.wk {e : List Stmt} {t t' : TS} (h : PSs X e t) (w : ∀ D σ H, t' D σ H → t D σ H) : PSs X e t' := ⟨fun pins s σ H D I q => h.run pins s σ H D I (w D σ H q)⟩
theorem _root_.L2.PS.wk {e : Stmt} {t t' : TS} (h : PS X e t) (w : ∀ D σ H, t' D σ H → t D σ H) : PS X e t' := ⟨fun pins s σ H D I q => h.run pins s σ H D I (w D σ H q)⟩
theorem pe_ex {β : Type} {e : Expr} {t : β → TE} (h : ∀ b, PE X e (t b)) : PE X e (fun σ H Q => ∃ b, t b σ H Q) := ⟨fun pins s σ H Q I ⟨b, q⟩ => (h b).run pins s σ H Q I q⟩
theorem pa_ex {β : Type} {e : List Expr} {t : β → TA} (h : ∀ b, PA X e (t b)) : PA X e (fun σ H Q => ∃ b, t b σ H Q) := ⟨fun p pins s σ H Q I ⟨b, q⟩ => (h b).run p pins s σ H Q I q⟩
theorem pw_ex {β : Type} {e : Expr} {t : β → TT} (h : ∀ b, PW X e (t b)) : PW X e (fun σ H Q => ∃ b, t b σ H Q) := ⟨fun wh pins s σ H Q I ⟨b, q⟩ => (h b).run wh pins s σ H Q I q⟩
theorem pss_ex {β : Type} {e : List Stmt} {t : β → TS} (h : ∀ b, PSs X e (t b)) : PSs X e (fun D σ H => ∃ b, t b D σ H) := ⟨fun pins s σ H D I ⟨b, q⟩ => (h b).run pins s σ H D I q⟩
variable {W : Bool} {F : Fm} {Γ : Gm} {Δ : Δs} {γ : Type}
theorem x_var (i : Nat) {x : Str} {pos : Pos} {p : Pd} {k : Unit → Option γ} (h : Γ[i]? = some (some p) := by rfl) (hN : X.N[i]? = some x := by rfl) (hv : Vis X.env.scope x := by first | exact Or.inl rfl | exact Or.inr (Or.inl rfl) | exact Or.inr (Or.inr rfl))
    (hd : (x == ("__debug__" : Str)) = false := by decide) (hcd : (x == ("__classdict__" : Str)) = false := by decide) : PE X (.Name x pos) (tE W F Γ Δ (k ()) k (fun _ => p) fun _ => Δ) :=
  (pe_var hN hv hd hcd).wk fun σ H Q ⟨ok, g, e, q⟩ => by
    obtain ⟨v, hs, hp⟩ := ok.gam i p h
    exact ⟨v, hs, q () v H e (St.refl H) ok hp⟩
theorem x_c {e : Expr} {v : V} {p : Pd} {k : Unit → Option γ} (he : PE X e (tC v)) (hp : ∀ H, p.pr H v) : PE X e (tE W F Γ Δ (k ()) k (fun _ => p) fun _ => Δ) :=
  he.wk fun σ H Q ⟨ok, g, e, q⟩ => q () v H e (St.refl H) ok (hp H)
theorem x_int {i : Int} {j pos} {k : Unit → Option γ} : PE X (.Constant (.int i) j pos) (tE W F Γ Δ (k ()) k (fun _ => pInt i) fun _ => Δ) := x_c pe_int fun _ => rfl
theorem x_bl {i : Bool} {j pos} {k : Unit → Option γ} : PE X (.Constant (.bool i) j pos) (tE W F Γ Δ (k ()) k (fun _ => pBl i) fun _ => Δ) := x_c pe_bl fun _ => rfl
theorem x_str {i : Str} {j pos} {k : Unit → Option γ} : PE X (.Constant (.str i) j pos) (tE W F Γ Δ (k ()) k (fun _ => pStr i) fun _ => Δ) := x_c pe_str fun _ => rfl
def Bin2 (X : Cx) (e a b : Expr) (r : R2) : Prop := ∀ ta tb, PE X a ta → PE X b tb → PE X e (tOp r ta tb)
theorem b_op {op : Operator} {r : R2} {a b : Expr} {pos : Pos} (ho : OpR X (binaryOp op) r) : Bin2 X (.BinOp a op b pos) a b r := fun _ _ ha hb => pe_op ho ha hb
theorem b_cmp {op : CmpOp} {r : R2} {a b : Expr} {pos : Pos} (ho : OpR X (compareOp op) r) (hm : behindInMarks op b = false) : Bin2 X (.Compare a [op] [b] pos) a b r := fun _ _ ha hb => pe_cmpR ho ha hb hm
theorem b_ix {r : R2} {a b : Expr} {pos : Pos} (ho : IxR X r) (hs : PlainIx b) : Bin2 X (.Subscript a b pos) a b r := fun _ _ ha hb => pe_ix ho ha hb hs
section
variable {e a b : Expr} {r : R2} {β1 β2 : Type} {T : Option γ} {k1 : β1 → Option γ} {k2 : β1 → β2 → Option γ} {E1 : β1 → Pd} {E2 : β1 → β2 → Pd} {Δ1 : β1 → Δs} {Δ2 : β1 → β2 → Δs}
theorem x2_core {t' : TE} (h2 : Bin2 X e a b r) (ha : PE X a (tE W F Γ Δ T k1 E1 Δ1)) (hb : ∀ b1, PE X b (tE W F Γ (Δ1 b1) (k1 b1) (k2 b1) (E2 b1) (Δ2 b1)))
    (hw : ∀ σ H Q, t' σ H Q → Ok F Γ Δ σ H ∧ ∃ g, T = some g ∧ ∀ b1 b2 v w H2, k2 b1 b2 = some g → St W H H2 → Ok F Γ (Δ2 b1 b2) σ H2 → (E1 b1).pr H2 v → (E2 b1 b2).pr H2 w → r v w H2 Q) : PE X e t' :=
  (h2 _ _ ha (pe_ex hb)).wk fun σ H Q h => by
    obtain ⟨ok, g, e, q⟩ := hw σ H Q h
    exact ⟨ok, g, e, fun b1 v H1 kb f1 ok1 hv => ⟨b1, ok1, g, kb, fun b2 w H2 kb2 f2 ok2 hw => q b1 b2 v w H2 kb2 (f1.trans f2) ok2 ((E1 b1).mono f2.fz hv) hw⟩⟩
theorem x2t {E : β1 × β2 → Pd} {k : β1 × β2 → Option γ} (h2 : Bin2 X e a b r) (ha : PE X a (tE W F Γ Δ T k1 E1 Δ1)) (hb : ∀ b1, PE X b (tE W F Γ (Δ1 b1) (k1 b1) (fun b2 => k (b1, b2)) (E2 b1) (Δ2 b1)))
    (hv : ∀ b1 b2 σ v w H Q, Ok F Γ (Δ2 b1 b2) σ H → (E1 b1).pr H v → (E2 b1 b2).pr H w → (∀ u, (E (b1, b2)).pr H u → Q u H) → r v w H Q) : PE X e (tE W F Γ Δ T k E fun b => Δ2 b.1 b.2) :=
  x2_core h2 ha hb fun σ H Q ⟨ok, g, e, q⟩ => ⟨ok, g, e, fun b1 b2 v w H2 kb f ok2 hv1 hv2 => hv b1 b2 σ v w H2 Q ok2 hv1 hv2 fun u hu => q (b1, b2) u H2 kb f ok2 hu⟩
theorem x2g {E : β1 × β2 → Pd} {k : β1 × β2 → Option γ} {c : β1 → β2 → Prop} [∀ b1 b2, Decidable (c b1 b2)] (h2 : Bin2 X e a b r) (ha : PE X a (tE W F Γ Δ T k1 E1 Δ1)) (hb : ∀ b1, PE X b (tE W F Γ (Δ1 b1) (k1 b1) (fun b2 => grd (c b1 b2) (k (b1, b2))) (E2 b1) (Δ2 b1)))
    (hv : ∀ b1 b2 σ v w H Q, Ok F Γ (Δ2 b1 b2) σ H → c b1 b2 → (E1 b1).pr H v → (E2 b1 b2).pr H w → (∀ u, (E (b1, b2)).pr H u → Q u H) → r v w H Q) : PE X e (tE W F Γ Δ T k E fun b => Δ2 b.1 b.2) :=
  x2_core h2 ha hb fun σ H Q ⟨ok, g, e, q⟩ => ⟨ok, g, e, fun b1 b2 v w H2 kb f ok2 hv1 hv2 => hv b1 b2 σ v w H2 Q ok2 (grd_some kb).1 hv1 hv2 fun u hu => q (b1, b2) u H2 (grd_some kb).2 f ok2 hu⟩
theorem x2p {β3 : Type} {E : (β1 × β2) × β3 → Pd} {k : (β1 × β2) × β3 → Option γ} {m : β1 → β2 → Option β3} (h2 : Bin2 X e a b r) (ha : PE X a (tE W F Γ Δ T k1 E1 Δ1))
    (hb : ∀ b1, PE X b (tE W F Γ (Δ1 b1) (k1 b1) (fun b2 => (m b1 b2).bind fun b3 => k ((b1, b2), b3)) (E2 b1) (Δ2 b1)))
    (hv : ∀ b1 b2 b3 σ v w H Q, Ok F Γ (Δ2 b1 b2) σ H → m b1 b2 = some b3 → (E1 b1).pr H v → (E2 b1 b2).pr H w → (∀ u, (E ((b1, b2), b3)).pr H u → Q u H) → r v w H Q) : PE X e (tE W F Γ Δ T k E fun b => Δ2 b.1.1 b.1.2) :=
  x2_core h2 ha hb fun σ H Q ⟨ok, g, e, q⟩ => ⟨ok, g, e, fun b1 b2 v w H2 kb f ok2 hv1 hv2 => by
    obtain ⟨b3, e3, kb3⟩ := bind_some kb
    exact hv b1 b2 b3 σ v w H2 Q ok2 e3 hv1 hv2 fun u hu => q ((b1, b2), b3) u H2 kb3 f ok2 hu⟩
end
def Bin2T (X : Cx) (e a b : Expr) (r : R2) : Prop := ∀ ta tb, PE X a ta → PE X b tb → PT X e (tTest (tOp r ta tb))
theorem bt_cmp {op : CmpOp} {r : R2} {a b : Expr} {pos : Pos} (ho : OpR X (compareOp op) r) (hm : behindInMarks op b = false) : Bin2T X (.Compare a [op] [b] pos) a b r := fun _ _ ha hb => pt_cmpR ho ha hb hm
section
variable {e a b : Expr} {r : R2} {β1 β2 : Type} {T : Option γ} {k1 : β1 → Option γ} {k2 : β1 → β2 → Option γ} {E1 : β1 → Pd} {E2 : β1 → β2 → Pd} {Δ1 : β1 → Δs} {Δ2 : β1 → β2 → Δs}
theorem t2_core {t' : TT} (h2 : Bin2T X e a b r) (ha : PE X a (tE W F Γ Δ T k1 E1 Δ1)) (hb : ∀ b1, PE X b (tE W F Γ (Δ1 b1) (k1 b1) (k2 b1) (E2 b1) (Δ2 b1)))
    (hw : ∀ σ H Q, t' σ H Q → Ok F Γ Δ σ H ∧ ∃ g, T = some g ∧ ∀ b1 b2 v w H2, k2 b1 b2 = some g → St W H H2 → Ok F Γ (Δ2 b1 b2) σ H2 → (E1 b1).pr H2 v → (E2 b1 b2).pr H2 w → r v w H2 (fun x H' => ∃ k, x = .bl k ∧ Q k H')) : PT X e t' :=
  (h2 _ _ ha (pe_ex hb)).wk fun σ H Q h => by
    obtain ⟨ok, g, e, q⟩ := hw σ H Q h
    exact ⟨ok, g, e, fun b1 v H1 kb f1 ok1 hv => ⟨b1, ok1, g, kb, fun b2 w H2 kb2 f2 ok2 hw => q b1 b2 v w H2 kb2 (f1.trans f2) ok2 ((E1 b1).mono f2.fz hv) hw⟩⟩
theorem t2t {c : β1 × β2 → Bool} {k : β1 × β2 → Option γ} (h2 : Bin2T X e a b r) (ha : PE X a (tE W F Γ Δ T k1 E1 Δ1)) (hb : ∀ b1, PE X b (tE W F Γ (Δ1 b1) (k1 b1) (fun b2 => k (b1, b2)) (E2 b1) (Δ2 b1)))
    (hv : ∀ b1 b2 σ v w H Q, Ok F Γ (Δ2 b1 b2) σ H → (E1 b1).pr H v → (E2 b1 b2).pr H w → (∀ u, (pBl (c (b1, b2))).pr H u → Q u H) → r v w H Q) : PT X e (tTs W F Γ Δ T k c fun b => Δ2 b.1 b.2) :=
  t2_core h2 ha hb fun σ H Q ⟨ok, g, e, q⟩ => ⟨ok, g, e, fun b1 b2 v w H2 kb f ok2 hv1 hv2 => hv b1 b2 σ v w H2 _ ok2 hv1 hv2 fun u hu => ⟨c (b1, b2), hu, q (b1, b2) H2 kb f ok2⟩⟩
end
section
variable {a b : Expr} {pos : Pos} {β1 β2 : Type} {T : Option γ} {k1 : β1 → Option γ} {k : β1 × β2 → Option γ} {Δ1 : β1 → Δs} {Δ2 : β1 → β2 → Δs} {i : β1 → Int} {j : β1 → β2 → Int}
theorem x_add (ha : PE X a (tE W F Γ Δ T k1 (fun b => pInt (i b)) Δ1)) (hb : ∀ b1, PE X b (tE W F Γ (Δ1 b1) (k1 b1) (fun b2 => k (b1, b2)) (fun b => pInt (j b1 b)) (Δ2 b1))) :
    PE X (.BinOp a .Add b pos) (tE W F Γ Δ T k (fun b => pInt (i b.1 + j b.1 b.2)) fun b => Δ2 b.1 b.2) :=
  x2t (b_op op_add) ha hb fun b1 b2 _ v w H Q _ hv hw q => ⟨i b1, j b1 b2, hv, hw, q _ rfl⟩
theorem x_sub (ha : PE X a (tE W F Γ Δ T k1 (fun b => pInt (i b)) Δ1)) (hb : ∀ b1, PE X b (tE W F Γ (Δ1 b1) (k1 b1) (fun b2 => k (b1, b2)) (fun b => pInt (j b1 b)) (Δ2 b1))) :
    PE X (.BinOp a .Sub b pos) (tE W F Γ Δ T k (fun b => pInt (i b.1 - j b.1 b.2)) fun b => Δ2 b.1 b.2) :=
  x2t (b_op op_sub) ha hb fun b1 b2 _ v w H Q _ hv hw q => ⟨i b1, j b1 b2, hv, hw, q _ rfl⟩
def sm (i : Int) : Bool := decide (-(2 ^ 64) < i) && decide (i < 2 ^ 64)
theorem sm_ok {i : Int} (h : sm i = true) : -(2 ^ 64) < i ∧ i < 2 ^ 64 := by
  obtain ⟨a, b⟩ := Bool.and_eq_true_iff.mp h
  exact ⟨of_decide_eq_true a, of_decide_eq_true b⟩
theorem x_mul (ha : PE X a (tE W F Γ Δ T k1 (fun b => pInt (i b)) Δ1)) (hb : ∀ b1, PE X b (tE W F Γ (Δ1 b1) (k1 b1) (fun b2 => grd ((sm (i b1) || sm (j b1 b2)) = true) (k (b1, b2))) (fun b => pInt (j b1 b)) (Δ2 b1))) :
    PE X (.BinOp a .Mult b pos) (tE W F Γ Δ T k (fun b => pInt (i b.1 * j b.1 b.2)) fun b => Δ2 b.1 b.2) :=
  x2g (b_op op_mul) ha hb fun b1 b2 _ v w H Q _ c hv hw q => ⟨i b1, j b1 b2, hv, hw, by
    rcases Bool.or_eq_true_iff.mp c with h | h
    · exact .inl (sm_ok h)
    · exact .inr (sm_ok h), q _ rfl⟩
theorem x_mod (ha : PE X a (tE W F Γ Δ T k1 (fun b => pInt (i b)) Δ1)) (hb : ∀ b1, PE X b (tE W F Γ (Δ1 b1) (k1 b1) (fun b2 => grd (0 < j b1 b2) (k (b1, b2))) (fun b => pInt (j b1 b)) (Δ2 b1))) :
    PE X (.BinOp a .Mod b pos) (tE W F Γ Δ T k (fun b => pInt (i b.1 % j b.1 b.2)) fun b => Δ2 b.1 b.2) :=
  x2g (b_op op_mod) ha hb fun b1 b2 _ v w H Q _ c hv hw q => ⟨i b1, j b1 b2, hv, hw, c, q _ rfl⟩
def dv (j : Int) : Bool := decide (0 < j) && decide (j < 1073741824)
theorem x_fdiv (ha : PE X a (tE W F Γ Δ T k1 (fun b => pInt (i b)) Δ1)) (hb : ∀ b1, PE X b (tE W F Γ (Δ1 b1) (k1 b1) (fun b2 => grd (dv (j b1 b2) = true) (k (b1, b2))) (fun b => pInt (j b1 b)) (Δ2 b1))) :
    PE X (.BinOp a .FloorDiv b pos) (tE W F Γ Δ T k (fun b => pInt (i b.1 / j b.1 b.2)) fun b => Δ2 b.1 b.2) :=
  x2g (b_op op_fdiv) ha hb fun b1 b2 _ v w H Q _ c hv hw q => ⟨i b1, j b1 b2, hv, hw, by
    obtain ⟨h1, h2⟩ := Bool.and_eq_true_iff.mp c
    exact ⟨of_decide_eq_true h1, of_decide_eq_true h2⟩, q _ rfl⟩
theorem x_pow (ha : PE X a (tE W F Γ Δ T k1 (fun b => pInt (i b)) Δ1)) (hb : ∀ b1, PE X b (tE W F Γ (Δ1 b1) (k1 b1) (fun b2 => k (b1, b2)) (fun b => pInt (j b1 b)) (Δ2 b1))) (hc : ∀ b1 b2, 0 ≤ j b1 b2 ∧ j b1 b2 ≤ 1000000 ∧ (i b1).natAbs < 2 ^ 64) :
    PE X (.BinOp a .Pow b pos) (tE W F Γ Δ T k (fun b => pInt (i b.1 ^ (j b.1 b.2).toNat)) fun b => Δ2 b.1 b.2) :=
  x2t (b_op op_pow) ha hb fun b1 b2 _ v w H Q _ hv hw q => ⟨i b1, j b1 b2, hv, hw, hc b1 b2, q _ rfl⟩
theorem x_lt (ha : PE X a (tE W F Γ Δ T k1 (fun b => pInt (i b)) Δ1)) (hb : ∀ b1, PE X b (tE W F Γ (Δ1 b1) (k1 b1) (fun b2 => k (b1, b2)) (fun b => pInt (j b1 b)) (Δ2 b1))) :
    PE X (.Compare a [.Lt] [b] pos) (tE W F Γ Δ T k (fun b => pBl (decide (i b.1 < j b.1 b.2))) fun b => Δ2 b.1 b.2) :=
  x2t (b_cmp op_lt (nomark _)) ha hb fun b1 b2 _ v w H Q _ hv hw q => ⟨i b1, j b1 b2, hv, hw, q _ rfl⟩
theorem x_ge (ha : PE X a (tE W F Γ Δ T k1 (fun b => pInt (i b)) Δ1)) (hb : ∀ b1, PE X b (tE W F Γ (Δ1 b1) (k1 b1) (fun b2 => k (b1, b2)) (fun b => pInt (j b1 b)) (Δ2 b1))) :
    PE X (.Compare a [.GtE] [b] pos) (tE W F Γ Δ T k (fun b => pBl (decide (j b.1 b.2 ≤ i b.1))) fun b => Δ2 b.1 b.2) :=
  x2t (b_cmp op_ge (nomark _)) ha hb fun b1 b2 _ v w H Q _ hv hw q => ⟨i b1, j b1 b2, hv, hw, q _ rfl⟩
theorem x_eqI (ha : PE X a (tE W F Γ Δ T k1 (fun b => pInt (i b)) Δ1)) (hb : ∀ b1, PE X b (tE W F Γ (Δ1 b1) (k1 b1) (fun b2 => k (b1, b2)) (fun b => pInt (j b1 b)) (Δ2 b1))) :
    PE X (.Compare a [.Eq] [b] pos) (tE W F Γ Δ T k (fun b => pBl (decide (i b.1 = j b.1 b.2))) fun b => Δ2 b.1 b.2) :=
  x2t (b_cmp op_eq (nomark _)) ha hb fun b1 b2 _ v w H Q _ hv hw q => by
    cases hv; cases hw
    refine ⟨rfl, q _ ?_⟩
    show V.bl _ = V.bl _
    congr 1
    by_cases z : i b1 = j b1 b2
    · rw [z]; simp
    · rw [decide_eq_false z, decide_eq_false fun y => z (V.int.inj y)]
theorem t_lt (ha : PE X a (tE W F Γ Δ T k1 (fun b => pInt (i b)) Δ1)) (hb : ∀ b1, PE X b (tE W F Γ (Δ1 b1) (k1 b1) (fun b2 => k (b1, b2)) (fun b => pInt (j b1 b)) (Δ2 b1))) :
    PT X (.Compare a [.Lt] [b] pos) (tTs W F Γ Δ T k (fun b => decide (i b.1 < j b.1 b.2)) fun b => Δ2 b.1 b.2) :=
  t2t (bt_cmp op_lt (nomark _)) ha hb fun b1 b2 _ v w H Q _ hv hw q => ⟨i b1, j b1 b2, hv, hw, q _ rfl⟩
theorem t_gt (ha : PE X a (tE W F Γ Δ T k1 (fun b => pInt (i b)) Δ1)) (hb : ∀ b1, PE X b (tE W F Γ (Δ1 b1) (k1 b1) (fun b2 => k (b1, b2)) (fun b => pInt (j b1 b)) (Δ2 b1))) :
    PT X (.Compare a [.Gt] [b] pos) (tTs W F Γ Δ T k (fun b => decide (j b.1 b.2 < i b.1)) fun b => Δ2 b.1 b.2) :=
  t2t (bt_cmp op_gt (nomark _)) ha hb fun b1 b2 _ v w H Q _ hv hw q => ⟨i b1, j b1 b2, hv, hw, q _ rfl⟩
theorem t_eqI (ha : PE X a (tE W F Γ Δ T k1 (fun b => pInt (i b)) Δ1)) (hb : ∀ b1, PE X b (tE W F Γ (Δ1 b1) (k1 b1) (fun b2 => k (b1, b2)) (fun b => pInt (j b1 b)) (Δ2 b1))) :
    PT X (.Compare a [.Eq] [b] pos) (tTs W F Γ Δ T k (fun b => decide (i b.1 = j b.1 b.2)) fun b => Δ2 b.1 b.2) :=
  t2t (bt_cmp op_eq (nomark _)) ha hb fun b1 b2 _ v w H Q _ hv hw q => by
    cases hv; cases hw
    refine ⟨rfl, q _ ?_⟩
    show V.bl _ = V.bl _
    congr 1
    by_cases z : i b1 = j b1 b2
    · rw [z]; simp
    · rw [decide_eq_false z, decide_eq_false fun y => z (V.int.inj y)]
theorem t_neI (ha : PE X a (tE W F Γ Δ T k1 (fun b => pInt (i b)) Δ1)) (hb : ∀ b1, PE X b (tE W F Γ (Δ1 b1) (k1 b1) (fun b2 => k (b1, b2)) (fun b => pInt (j b1 b)) (Δ2 b1))) :
    PT X (.Compare a [.NotEq] [b] pos) (tTs W F Γ Δ T k (fun b => !decide (i b.1 = j b.1 b.2)) fun b => Δ2 b.1 b.2) :=
  t2t (bt_cmp op_ne (nomark _)) ha hb fun b1 b2 _ v w H Q _ hv hw q => by
    cases hv; cases hw
    refine ⟨rfl, q _ ?_⟩
    show V.bl _ = V.bl _
    congr 1
    by_cases z : i b1 = j b1 b2
    · rw [z]; simp
    · rw [decide_eq_false z, decide_eq_false fun y => z (V.int.inj y)]
end
end
end L3
end
section
set_option maxHeartbeats 4000000
namespace L3
open PySem PySem.Spec PyProof.Rows L2
theorem flat_sub : ∀ {Δ' Δ : List Cel}, Δ'.Sublist Δ → (cellsOf Δ').Sublist (cellsOf Δ)
  | _, _, .slnil => List.Sublist.refl _
  | _, _, .cons a s => by
    rw [cellsOf_cons]
    exact (flat_sub s).trans (List.sublist_append_right _ _)
  | _, _, .cons₂ a s => by
    rw [cellsOf_cons, cellsOf_cons]
    exact (List.Sublist.refl _).append (flat_sub s)
theorem HkO.less {F : Fm} {Δ Δ' : List Cel} {H : Hp} (k : HkO F Δ H) (h : Δ'.Sublist Δ) : HkO F Δ' H :=
  ⟨k.base, fun c hc => k.del c (h.subset hc), k.nod.sublist (flat_sub h), fun c hc => k.own c (h.subset hc), k.mem⟩
section
variable {F : Fm} {Γ : Gm} {Δ : Δs} {σ : SS} {H : Hp} {j : Nat} {c : Cell}
end
theorem inv_lkX {X : Cx} {pins : List (Addr × Obj)} {σ : SS} {s : Shared} {Φ : Hp → Prop} {H : Hp} (I : Inv X pins σ H s) (h : tLkX Φ H) : ∃ H', Inv X pins σ H' s ∧ Φ H' := by
  obtain ⟨G, h⟩ := h
  exact inv_lk I h
theorem map_sub : ∀ {Δ0 : List Cel} {Δ' : Δs}, Δ'.Sublist (Δ0.map Cel.fg) → ∃ Δ1 : List Cel, Δ1.Sublist Δ0 ∧ Δ1.map Cel.fg = Δ'
  | [], _, h => ⟨[], .slnil, by
    have := List.sublist_nil.mp h
    rw [this]; rfl⟩
  | x :: Δ0, Δ', h => by
    rw [List.map_cons] at h
    cases h with
    | cons _ h =>
      obtain ⟨Δ1, s, e⟩ := map_sub h
      exact ⟨Δ1, .cons _ s, e⟩
    | cons_cons _ h =>
      obtain ⟨Δ1, s, e⟩ := map_sub h
      exact ⟨x :: Δ1, .cons₂ _ s, by rw [List.map_cons, e]⟩
theorem Hk.less {F : Fm} {Δ Δ' : Δs} {H : Hp} (k : Hk F Δ H) (h : Δ'.Sublist Δ) : Hk F Δ' H := by
  obtain ⟨Δ0, e, k⟩ := k
  subst e
  obtain ⟨Δ1, s, e⟩ := map_sub h
  exact ⟨Δ1, e, k.less s⟩
theorem Ok.less {F : Fm} {Γ : Gm} {Δ Δ' : Δs} {σ : SS} {H : Hp} (k : Ok F Γ Δ σ H) (h : Δ'.Sublist Δ) : Ok F Γ Δ' σ H := ⟨k.hk.less h, k.nm⟩
theorem OkN.less {W : Bool} {F : Fm} {Γ : Gm} {Δ Δ' : Δs} {σ : SS} {H0 H : Hp} {v : V} {d : Od} (k : OkN W F Γ H0 v d Δ σ H) (h : Δ'.Sublist Δ) : OkN W F Γ H0 v d Δ' σ H := by
  obtain ⟨Δ0, G, e, k, nw, n⟩ := k
  subst e
  obtain ⟨Δ1, s, e⟩ := map_sub h
  exact ⟨Δ1, G, e, k.less (s.cons₂ _), nw, n⟩
theorem SubG.get : ∀ {g' g : Gm} {i : Nat} {p : Pd}, SubG g' g → g'[i]? = some (some p) → g[i]? = some (some p)
  | [], [], _, _, _, e => by simp at e
  | none :: g', _ :: g, 0, p, h, e => by simp at e
  | none :: g', _ :: g, i + 1, p, h, e => SubG.get (g' := g') (g := g) (i := i) h (by simpa using e)
  | some a :: g', some b :: g, 0, p, h, e => by
    have q : a = p := by simpa using e
    rw [← q, h.1]
    rfl
  | some a :: g', some b :: g, i + 1, p, h, e => SubG.get (g' := g') (g := g) (i := i) h.2 (by simpa using e)
  | [], _ :: _, _, _, h, _ => h.elim
  | some _ :: _, [], _, _, h, _ => h.elim
  | none :: _, [], _, _, h, _ => h.elim
  | some _ :: _, none :: _, _, _, h, _ => h.elim
theorem Ok.wk {F : Fm} {Γ Γ' : Gm} {Δ Δ' : Δs} {σ : SS} {H : Hp} (k : Ok F Γ Δ σ H) (g : SubG Γ' Γ) (h : Δ'.Sublist Δ) : Ok F Γ' Δ' σ H :=
  ⟨k.hk.less h, ⟨k.len.trans g.len.symm, fun i p e => k.gam i p (g.get e)⟩⟩
end L3
end
section
set_option maxHeartbeats 4000000
namespace L3
open PySem PySem.Spec PyProof.Rows L2
section
variable {X : Cx} {W : Bool} {F : Fm} {Γ : Gm} {Δ : Δs} {γ : Type}
theorem x_frz {β : Type} {e : Expr} {T : Option γ} {k : β → Option γ} {D : β → Od} {Δ' : β → Δs} (he : PE X e (tO W F Γ Δ T k D Δ')) : PE X e (tE W F Γ Δ T k (fun b => (D b).pd) Δ') :=
  ⟨fun pins s σ H Q I ⟨ok, g, e, q⟩ => thn (he.run pins s σ H (fun v H' => ∃ b, k b = some g ∧ St W H H' ∧ OkN W F Γ H v (D b) (Δ' b) σ H') I ⟨ok, g, e, fun b v H' kb f ok' => ⟨b, kb, f, ok'⟩⟩) fun u s1 ⟨v, H1, I1, r1, b, kb, f, ok1⟩ => by
    obtain ⟨H2, I2, f2, ok2, p2⟩ := inv_lkX (Φ := fun H2 => St W H H2 ∧ Ok F Γ (Δ' b) σ H2 ∧ (D b).pd.pr H2 v) I1 (ok1.frz f fun H' f h p => ⟨f, h, p⟩)
    exact ⟨v, H2, I2, r1, q b v H2 kb f2 ok2 p2⟩⟩
def Un1 (X : Cx) (e a : Expr) (r : V → Hp → VK → Prop) : Prop := ∀ ta, PE X a ta → PE X e (tUn r ta)
theorem u_un {op : UnaryOp} {r : V → Hp → VK → Prop} {a : Expr} {pos : Pos} (ho : UnR X (unaryOp op) r) : Un1 X (.UnaryOp op a pos) a r := fun _ ha => pe_un ho ha
theorem u_callB {id : String} {r : List V → Hp → VK → Prop} {x : Str} {a : Expr} {p pos : Pos} (hc : CallR X (.builtin id) r) (hg : Gl X x) (hm : X.mg x = none) (hv : bootBuiltins x = some (.builtin id)) (hn : x ≠ "__name__" := by decide) (hdb : (x == ("__debug__" : Str)) = false := by decide)
    (hs : starEach [a] X.env = (false, eval a X.env) :: starEach [] X.env := by rfl) : Un1 X (.Call (.Name x p) [a] [] pos) a (fun v => r [v]) := fun ta ha => (pe_callB hc hg hm hv (pa_cons ha pa_nil hs) hn hdb hs).wk fun σ H Q h => h
theorem u_callTy {id : String} {r : List V → Hp → VK → Prop} {x : Str} {a : Expr} {p pos : Pos} (hc : CallR X (.type id) r) (hg : Gl X x) (hm : X.mg x = none) (hv : bootBuiltins x = some (.type id)) (hn : x ≠ "__name__" := by decide) (hdb : (x == ("__debug__" : Str)) = false := by decide)
    (hs : starEach [a] X.env = (false, eval a X.env) :: starEach [] X.env := by rfl) : Un1 X (.Call (.Name x p) [a] [] pos) a (fun v => r [v]) := fun ta ha => (pe_callTy hc hg hm hv (pa_cons ha pa_nil hs) hn hdb hs).wk fun σ H Q h => h
theorem b_callB {id : String} {r : List V → Hp → VK → Prop} {x : Str} {a b : Expr} {p pos : Pos} (hc : CallR X (.builtin id) r) (hg : Gl X x) (hm : X.mg x = none) (hv : bootBuiltins x = some (.builtin id)) (hn : x ≠ "__name__" := by decide) (hdb : (x == ("__debug__" : Str)) = false := by decide)
    (hs : starEach [a, b] X.env = (false, eval a X.env) :: starEach [b] X.env := by rfl) (hs2 : starEach [b] X.env = (false, eval b X.env) :: starEach [] X.env := by rfl) (hpl : (backTo pos (starEach [b] X.env)).any (·.1) = false := by rfl) : Bin2 X (.Call (.Name x p) [a, b] [] pos) a b (fun v w => r [v, w]) := fun ta tb ha hb => (pe_callB hc hg hm hv (pa_cons ha (pa_cons hb pa_nil hs2) hs) hn hdb hs hpl).wk fun σ H Q h => h
section
variable {e a : Expr} {r : V → Hp → VK → Prop} {β : Type} {T : Option γ} {E1 : β → Pd} {Δ1 : β → Δs}
theorem x1t {k : β → Option γ} {E : β → Pd} (h1 : Un1 X e a r) (ha : PE X a (tE W F Γ Δ T k E1 Δ1)) (hv : ∀ b σ v H Q, Ok F Γ (Δ1 b) σ H → (E1 b).pr H v → (∀ u, (E b).pr H u → Q u H) → r v H Q) : PE X e (tE W F Γ Δ T k E Δ1) :=
  (h1 _ ha).wk fun σ H Q ⟨ok, g, e, q⟩ => ⟨ok, g, e, fun b v H' kb f ok' hp => hv b σ v H' Q ok' hp fun u hu => q b u H' kb f ok' hu⟩
theorem Ok.newL {σ : SS} {H : Hp} {p : Addr} {α : Type} {E : α → Pd} {xs : List α} {vs : List V} (ok : Ok F Γ Δ σ H) (hp : H p = none) (z : xs.length ≤ sizeLine) (q : Paired (fun x u => (E x).pr H u) xs vs) : OkN W F Γ H (.ref p) (oL E xs) Δ σ (upd H p (.lst vs)) ∧ Gr H (upd H p (.lst vs)) := by
  have g : Gr H (upd H p (.lst vs)) := Gr.new hp
  exact ⟨ok.add g (List.nodup_cons.mpr ⟨List.not_mem_nil, List.nodup_nil⟩) (fun a ha => by rw [List.mem_singleton.mp ha]; exact hp) ⟨p, vs, rfl, rfl, upd_same, z, paired_mono (fun x _ => (E x).mono g.fzs) q⟩, g⟩
theorem x1n {k : β → Option γ} {α : Type} {Ee : α → Pd} {ys : β → List α} (h1 : Un1 X e a r) (ha : PE X a (tE W F Γ Δ T k E1 Δ1))
    (hv : ∀ b σ v H Q, Ok F Γ (Δ1 b) σ H → (E1 b).pr H v → (∀ p vs, H p = none → (ys b).length ≤ sizeLine → Paired (fun x u => (Ee x).pr H u) (ys b) vs → Q (.ref p) (upd H p (.lst vs))) → r v H Q) : PE X e (tO W F Γ Δ T k (fun b => oL Ee (ys b)) Δ1) :=
  (h1 _ ha).wk fun σ H Q ⟨ok, g, e, q⟩ => ⟨ok, g, e, fun b v H' kb f ok' hp => hv b σ v H' Q ok' hp fun p vs np z pr => by
    obtain ⟨o2, f2⟩ := ok'.newL np z pr
    exact q b _ _ kb (f.trans f2.st) (o2.since f)⟩
end
theorem a_nil {k : Unit → Option γ} : PA X [] (tAr W F Γ Δ (k ()) k (fun _ => []) fun _ => Δ) := pa_nil.wk fun σ H Q ⟨ok, g, e, q⟩ => q () [] H e (St.refl H) ok .nil
theorem a_cons {a : Expr} {es : List Expr} {β1 β2 : Type} {T : Option γ} {k1 : β1 → Option γ} {k : β1 × β2 → Option γ} {E1 : β1 → Pd} {Es : β1 → β2 → List Pd} {Δ1 : β1 → Δs} {Δ2 : β1 → β2 → Δs}
    (ha : PE X a (tE W F Γ Δ T k1 E1 Δ1)) (hr : ∀ b1, PA X es (tAr W F Γ (Δ1 b1) (k1 b1) (fun b2 => k (b1, b2)) (Es b1) (Δ2 b1))) (hs : starEach (a :: es) X.env = (false, eval a X.env) :: starEach es X.env := by rfl) :
    PA X (a :: es) (tAr W F Γ Δ T k (fun b => E1 b.1 :: Es b.1 b.2) fun b => Δ2 b.1 b.2) :=
  (pa_cons ha (pa_ex hr) hs).wk fun σ H Q ⟨ok, g, e, q⟩ => ⟨ok, g, e, fun b1 v H1 kb f1 ok1 hv => ⟨b1, ok1, g, kb, fun b2 vs H2 kb2 f2 ok2 hvs => q (b1, b2) (v :: vs) H2 kb2 (f1.trans f2) ok2 (.cons ((E1 b1).mono f2.fz hv) hvs)⟩⟩
theorem paired_len {α β : Type} {P : α → β → Prop} {l₁ : List α} {l₂ : List β} (h : Paired P l₁ l₂) : l₁.length = l₂.length := Paired.length h
theorem paired_map {α : Type} {E : α → Pd} {H : Hp} : ∀ {xs : List α} {vs : List V}, Paired (fun p v => Pd.pr p H v) (xs.map E) vs → Paired (fun x v => (E x).pr H v) xs vs
  | [], _, h => by cases h; exact .nil
  | x :: xs, _, h => by
    cases h with
    | cons r t => exact .cons r (paired_map t)
theorem x_disp {es : List Expr} {pos : Pos} {β α : Type} {T : Option γ} {k : β → Option γ} {Es : β → List Pd} {Δ1 : β → Δs} (Ee : α → Pd) (xs : β → List α) (ha : PA X es (tAr W F Γ Δ T k Es Δ1)) (he : ∀ b, Es b = (xs b).map Ee) (hz : ∀ b, (xs b).length ≤ 1000) :
    PE X (.List es pos) (tO W F Γ Δ T k (fun b => oL Ee (xs b)) Δ1) :=
  (pe_lst ha).wk fun σ H Q ⟨ok, g, e, q⟩ => ⟨ok, g, e, fun b vs H' kb f ok' hp => by
    rw [he b] at hp
    have hp2 := paired_map hp
    have z : (xs b).length ≤ sizeLine := Nat.le_trans (hz b) (by decide)
    refine ⟨by rw [← paired_len hp2]; exact z, fun p np => ?_⟩
    obtain ⟨o2, f2⟩ := ok'.newL np z hp2
    exact q b _ _ kb (f.trans f2.st) (o2.since f)⟩
theorem x_nil {pos : Pos} {α : Type} {k : Unit → Option γ} (Ee : α → Pd) : PE X (.List [] pos) (tO W F Γ Δ (k ()) k (fun _ => oL Ee []) fun _ => Δ) := x_disp Ee (fun _ => []) a_nil (fun _ => rfl) fun _ => Nat.zero_le _
theorem paired2 {α β : Type} {P : α → β → Prop} {p q : α} {vs : List β} (h : Paired P [p, q] vs) : ∃ u w, vs = [u, w] ∧ P p u ∧ P q w := by
  cases h with
  | cons r1 t => cases t with
    | cons r2 t => cases t with
      | nil => exact ⟨_, _, rfl, r1, r2⟩
theorem paired3 {α β : Type} {P : α → β → Prop} {p q r : α} {vs : List β} (h : Paired P [p, q, r] vs) : ∃ u w z, vs = [u, w, z] ∧ P p u ∧ P q w ∧ P r z := by
  cases h with
  | cons r1 t =>
    obtain ⟨u, w, e, h1, h2⟩ := paired2 t
    subst e
    exact ⟨_, _, _, rfl, r1, h1, h2⟩
theorem x_tup2 {a b : Expr} {x1} {pos : Pos} {α1 α2 β : Type} {T : Option γ} {k : β → Option γ} {Δ1 : β → Δs} {p q : β → Pd} (ha : PA X [a, b] (tAr W F Γ Δ T k (fun b => [p b, q b]) Δ1)) (E1 : α1 → Pd) (E2 : α2 → Pd) (x : β → α1) (y : β → α2) (h1 : ∀ b, p b = E1 (x b) := by exact fun _ => rfl) (h2 : ∀ b, q b = E2 (y b) := by exact fun _ => rfl) :
    PE X (.Tuple [a, b] x1 pos) (tE W F Γ Δ T k (fun b => pT2 E1 E2 (x b, y b)) Δ1) :=
  (pe_tup ha).wk fun σ H Q ⟨ok, g, e, w⟩ => ⟨ok, g, e, fun b vs H' kb f ok' hp => by
    have hp : Paired (fun p v => Pd.pr p H' v) [p b, q b] vs := hp
    rw [h1 b, h2 b] at hp
    obtain ⟨u1, u2, e, r1, r2⟩ := paired2 hp
    subst e
    refine ⟨by show 2 ≤ sizeLine; decide, fun t nt => ?_⟩
    have g' : Gr H' (upd H' t (.tup [u1, u2])) := Gr.new nt
    exact w b _ _ kb (f.trans g'.st) (ok'.gr g') ⟨t, _, _, rfl, upd_same, (E1 _).mono g'.fzs r1, (E2 _).mono g'.fzs r2⟩⟩
variable {γ : Type} {N : Fn γ} {rest : List Stmt}
theorem s_asg {i : Nat} {x : Str} {e : Expr} {pos pos' : Pos} {β : Type} {T : Option γ} {k : β → Option γ} {E : β → Pd} {Δ' : β → Δs} (nd : X.N.Nodup) (he : PE X e (tE true F Γ Δ T k E Δ'))
    (hr : ∀ b, PSs X rest (tS F (Γ.set i (some (E b))) (Δ' b) N (k b))) (hi : X.N[i]? = some x := by rfl) (hx : Loc X.env.scope x := by first | exact .inl rfl | exact .inr rfl)
    (hs : swapsWith e (some (.Name x pos')) pos.line X.env = pure false := by rfl) (hf : X.fn x = true ∨ X.env.scope.names.lookup x = some .local := by first | exact .inl rfl | exact .inr rfl | assumption) :
    PSs X (.Assign [.Name x pos'] e pos :: rest) (tS F Γ Δ N T) :=
  (pss_cons (ps_set nd hi hx he hs hf) (pss_ex hr)).wk fun D σ H ⟨ok, g, e, f⟩ => ⟨ok, g, e, fun b v H' kb fz ok' hv => ⟨b, ok'.set hv, g, kb, N.mono f fz.fz⟩⟩
theorem s_let {i : Nat} {x : Str} {e : Expr} {pos pos' : Pos} {β α : Type} {T : Option γ} {Δ' : β → Δs} {val : β → α} {k2 : β → α → Option γ} (E0 : α → Pd) (nd : X.N.Nodup) (he : PE X e (tE true F Γ Δ T (fun b => (some (val b)).bind (k2 b)) (fun b => E0 (val b)) Δ'))
    (hr : ∀ b a, PSs X rest (tS F (Γ.set i (some (E0 a))) (Δ' b) N (k2 b a))) (hi : X.N[i]? = some x := by rfl) (hx : Loc X.env.scope x := by first | exact .inl rfl | exact .inr rfl)
    (hs : swapsWith e (some (.Name x pos')) pos.line X.env = pure false := by rfl) (hf : X.fn x = true ∨ X.env.scope.names.lookup x = some .local := by first | exact .inl rfl | exact .inr rfl | assumption) :
    PSs X (.Assign [.Name x pos'] e pos :: rest) (tS F Γ Δ N T) :=
  s_asg nd he (fun b => hr b (val b)) hi hx hs hf
theorem s_letO {i : Nat} {x : Str} {e : Expr} {pos pos' : Pos} {β α : Type} {T : Option γ} {Δ' : β → Δs} {val : β → α} {k2 : β → α → Option γ} (D0 : α → Od) (nd : X.N.Nodup) (he : PE X e (tO true F Γ Δ T (fun b => (some (val b)).bind (k2 b)) (fun b => D0 (val b)) Δ'))
    (hr : ∀ b a v, PSs X rest (tS F (Γ.set i (some (pV v))) (⟨v, D0 a, none⟩ :: Δ' b) N (k2 b a))) (hi : X.N[i]? = some x := by rfl) (hx : Loc X.env.scope x := by first | exact .inl rfl | exact .inr rfl)
    (hs : swapsWith e (some (.Name x pos')) pos.line X.env = pure false := by rfl) (hf : X.fn x = true ∨ X.env.scope.names.lookup x = some .local := by first | exact .inl rfl | exact .inr rfl | assumption) :
    PSs X (.Assign [.Name x pos'] e pos :: rest) (tS F Γ Δ N T) :=
  (pss_cons (ps_set nd hi hx he hs hf) (pss_ex fun b => pss_ex fun v => hr b (val b) v)).wk fun D σ H ⟨ok, g, e, f⟩ => ⟨ok, g, e, fun b v H' kb fz ok' => ⟨b, v, ok'.ok.set rfl, g, kb, N.mono f fz.fz⟩⟩
theorem s_is {st : List Stmt} {T T' : Option γ} (hr : PSs X st (tS F Γ Δ N T')) (e : T = T') : PSs X st (tS F Γ Δ N T) := by rw [e]; exact hr
theorem Ok.frzS {σ : SS} {H : Hp} {i j : Nat} {c : Cell} (k : Ok F Γ Δ σ H) (hj : Δ[j]? = some c) (hi : Γ[i]? = some (some (pV c.v))) {Φ : Hp → Prop} (q : ∀ H', St true H H' → Ok F (Γ.set i (some c.d.pd)) (Δ.eraseIdx j) σ H' → Φ H') : tLkX Φ H :=
  k.frz hj fun H' f ok' p => q H' f (by
    obtain ⟨v, hs, hv⟩ := k.gam i _ hi
    have hv2 : v = c.v := hv
    subst hv2
    refine ⟨ok'.hk, by rw [List.length_set]; exact ok'.len, fun m p' e => ?_⟩
    by_cases h : m = i
    · subst h
      rw [List.getElem?_set_self (List.getElem?_eq_some_iff.mp hi).1] at e
      cases e
      exact ⟨_, hs, p⟩
    · rw [List.getElem?_set_ne (fun z => h z.symm)] at e
      exact ok'.gam m p' e)
theorem s_frz {st : List Stmt} {i : Nat} {T : Option γ} {c : Cell} (j : Nat) (hr : PSs X st (tS F (Γ.set i (some c.d.pd)) (Δ.eraseIdx j) N T)) (hj : Δ[j]? = some c := by rfl) (hi : Γ[i]? = some (some (pV c.v)) := by rfl) : PSs X st (tS F Γ Δ N T) :=
  ⟨fun pins s σ H D I ⟨ok, g, e, f⟩ => by
    obtain ⟨H2, I2, ok2⟩ := inv_lkX (Φ := fun H2 => Fzs H H2 ∧ Ok F (Γ.set i (some c.d.pd)) (Δ.eraseIdx j) σ H2) I (ok.frzS hj hi fun H' f h => ⟨f.fz, h⟩)
    exact hr.run pins s σ H2 D I2 ⟨ok2.2, g, e, N.mono f ok2.1⟩⟩
theorem s_expr {e : Expr} {pos : Pos} {β : Type} {T : Option γ} {k : β → Option γ} {E : β → Pd} {Δ' : β → Δs} (he : PE X e (tE true F Γ Δ T k E Δ')) (hr : ∀ b, PSs X rest (tS F Γ (Δ' b) N (k b))) (hs : swapsWith e none pos.line X.env = pure false := by rfl) :
    PSs X (.Expr e pos :: rest) (tS F Γ Δ N T) :=
  (pss_cons (ps_expr he hs) (pss_ex hr)).wk fun D σ H ⟨ok, g, e, f⟩ => ⟨ok, g, e, fun b v H' kb fz ok' _ => ⟨b, ok', g, kb, N.mono f fz.fz⟩⟩
abbrev Rt (ρ : Type) := ρ → VK → Prop
def fF {ρ : Type} (R : Rt ρ) : Fn ρ := ⟨fun _ r D => R r D.rt, fun h _ => h⟩
def RF {ρ : Type} (F : Fm) (P : ρ → Δs) (Rp : ρ → Pd) : Rt ρ := fun r rt => ∀ v H', Hk F (P r) H' → (Rp r).pr H' v → rt v H'
def RO {ρ : Type} (F : Fm) (P : ρ → Δs) (Ro : ρ → Od) : Rt ρ := fun r rt => ∀ v H', Hk F (⟨v, Ro r, none⟩ :: P r) H' → rt v H'
theorem s_ret {e : Expr} {pos : Pos} {β ρ : Type} {T : Option γ} {Δ' : β → Δs} {P : ρ → Δs} {Rp : ρ → Pd} {ι : ρ → γ} {rv : β → ρ} (hN : ∀ H r D, N.fin H (ι r) D → RF F P Rp r D.rt) (he : PE X e (tE true F Γ Δ T (fun b => some (ι (rv b))) (fun b => Rp (rv b)) Δ'))
    (hP : ∀ b, (P (rv b)).Sublist (Δ' b)) : PSs X [.Return (some e) pos] (tS F Γ Δ N T) :=
  (pss_one (ps_ret he)).wk fun D σ H ⟨ok, g, e, f⟩ => ⟨ok, g, e, fun b v H' kb fz ok' hv => by
    have eg : g = ι (rv b) := (Option.some.inj kb).symm
    rw [eg] at f
    exact hN _ _ D f v H' (ok'.hk.less (hP b)) hv⟩
theorem s_retO {e : Expr} {pos : Pos} {β ρ : Type} {T : Option γ} {Δ' : β → Δs} {P : ρ → Δs} {Ro : ρ → Od} {ι : ρ → γ} {rv : β → ρ} (hN : ∀ H r D, N.fin H (ι r) D → RO F P Ro r D.rt) (he : PE X e (tO true F Γ Δ T (fun b => some (ι (rv b))) (fun b => Ro (rv b)) Δ'))
    (hP : ∀ b, (P (rv b)).Sublist (Δ' b)) : PSs X [.Return (some e) pos] (tS F Γ Δ N T) :=
  (pss_one (ps_ret he)).wk fun D σ H ⟨ok, g, e, f⟩ => ⟨ok, g, e, fun b v H' kb fz ok' => by
    have eg : g = ι (rv b) := (Option.some.inj kb).symm
    rw [eg] at f
    exact hN _ _ D f v H' (ok'.ok.hk.less ((hP b).cons₂ _))⟩
end
end L3
end
section
set_option maxHeartbeats 4000000
set_option autoImplicit true
namespace L3
open PySem PySem.Spec PyProof.Rows L2
section
variable {X : Cx} {W : Bool} {F : Fm} {Γ : Gm} {Δ : Δs} {γ : Type}
theorem x_tot {β : Type} {e : Expr} {T : Option γ} {E : β → Pd} {Δ' : β → Δs} (b0 : β) (hβ : ∀ b, b = b0) (he : PE X e (tE W F Γ Δ T (fun _ : β => T) E Δ')) : PE X e (tE W F Γ Δ T (fun _ : Unit => T) (fun _ => E b0) fun _ => Δ' b0) :=
  he.wk fun σ H Q ⟨ok, g, e, q⟩ => ⟨ok, g, e, fun b v H' kb f ok' hv => by
    rw [hβ b] at ok' hv
    exact q () v H' kb f ok' hv⟩
theorem t_val {e : Expr} {β : Type} {T : Option γ} {k : β → Option γ} {c : β → Bool} {Δ' : β → Δs} (he : PE X e (tE W F Γ Δ T k (fun b => pBl (c b)) Δ')) (hw : ∀ whole, isTrue e X.env whole = (do let v ← whole; standAt e.pos; holding [v] (truthy v)) := by intro _; rfl) :
    PT X e (tTs W F Γ Δ T k c Δ') :=
  (pt_val he hw).wk fun σ H Q ⟨ok, g, e, q⟩ => ⟨ok, g, e, fun b v H' kb f ok' hv => ⟨c b, hv, q b H' kb f ok'⟩⟩
theorem t_not {e : Expr} {pos : Pos} {β : Type} {T : Option γ} {k : β → Option γ} {c : β → Bool} {Δ' : β → Δs} (he : PT X e (tTs W F Γ Δ T k c Δ')) : PT X (.UnaryOp .Not e pos) (tTs W F Γ Δ T k (fun b => !c b) Δ') :=
  (pt_not he).wk fun σ H Q ⟨ok, g, e, q⟩ => ⟨ok, g, e, fun b H' kb f ok' => q b H' kb f ok'⟩
theorem x_not {e : Expr} {pos : Pos} {β : Type} {T : Option γ} {k : β → Option γ} {c : β → Bool} {Δ' : β → Δs} (he : PE X e (tE W F Γ Δ T k (fun b => pBl (c b)) Δ')) : PE X (.UnaryOp .Not e pos) (tE W F Γ Δ T k (fun b => pBl (!c b)) Δ') :=
  (pe_not he).wk fun σ H Q ⟨ok, g, e, q⟩ => ⟨ok, g, e, fun b v H' kb f ok' hv => ⟨c b, hv, q b _ H' kb f ok' rfl⟩⟩
theorem t_tot {β : Type} {e : Expr} {T : Option γ} {c : β → Bool} {Δ' : β → Δs} (b0 : β) (hβ : ∀ b, b = b0) (he : PT X e (tTs W F Γ Δ T (fun _ : β => T) c Δ')) : PT X e (tTs W F Γ Δ T (fun _ : Unit => T) (fun _ => c b0) fun _ => Δ' b0) :=
  he.wk fun σ H Q ⟨ok, g, e, q⟩ => ⟨ok, g, e, fun b H' kb f ok' => by
    rw [hβ b] at ok' ⊢
    exact q () H' kb f ok'⟩
section
variable {a b : Expr} {rest : List Expr} {pos : Pos} {c1 c2 : Bool} {T : Option γ}
abbrev tTot (W : Bool) (F : Fm) (Γ : Gm) (Δ : Δs) {γ : Type} (T : Option γ) (c : Bool) : TT := tTs W F Γ Δ T (fun _ : Unit => T) (fun _ => c) fun _ => Δ
abbrev eTot (W : Bool) (F : Fm) (Γ : Gm) (Δ : Δs) {γ : Type} (T : Option γ) (p : Pd) : TE := tE W F Γ Δ T (fun _ : Unit => T) (fun _ => p) fun _ => Δ
theorem w_and1 (ha : PT X a (tTs W F Γ Δ T k c Δ')) : PW X (.BoolOp .And [a] pos) (tTs W F Γ Δ T k c Δ') := pw_and1 ha
theorem w_or1 (ha : PT X a (tTs W F Γ Δ T k c Δ')) : PW X (.BoolOp .Or [a] pos) (tTs W F Γ Δ T k c Δ') := pw_or1 ha
theorem w_and (ha : PT X a (tTot W F Γ Δ T c1)) (hb : PW X (.BoolOp .And (b :: rest) pos) (tTot W F Γ Δ T c2)) : PW X (.BoolOp .And (a :: b :: rest) pos) (tTot W F Γ Δ T (c1 && c2)) :=
  (pw_and ha hb).wk fun σ H Q ⟨ok, g, e, q⟩ => ⟨ok, g, e, fun _ H1 kb f ok1 => by
    cases c1 with
    | true => exact iteT ⟨ok1, g, e, fun _ H2 kb2 f2 ok2 => q () H2 kb2 (f.trans f2) ok2⟩
    | false => exact iteF (q () H1 kb f ok1)⟩
theorem w_or (ha : PT X a (tTot W F Γ Δ T c1)) (hb : PW X (.BoolOp .Or (b :: rest) pos) (tTot W F Γ Δ T c2)) : PW X (.BoolOp .Or (a :: b :: rest) pos) (tTot W F Γ Δ T (c1 || c2)) :=
  (pw_or ha hb).wk fun σ H Q ⟨ok, g, e, q⟩ => ⟨ok, g, e, fun _ H1 kb f ok1 => by
    cases c1 with
    | true => exact iteT (q () H1 kb f ok1)
    | false => exact iteF ⟨ok1, g, e, fun _ H2 kb2 f2 ok2 => q () H2 kb2 (f.trans f2) ok2⟩⟩
theorem v_one {op} {t : TE} (h : PE X a t) : PE X (.BoolOp op [a] pos) t := pe_one h
theorem v_and (ha : PE X a (eTot W F Γ Δ T (pBl c1))) (hb : PE X (.BoolOp .And (b :: rest) pos) (eTot W F Γ Δ T (pBl c2))) : PE X (.BoolOp .And (a :: b :: rest) pos) (eTot W F Γ Δ T (pBl (c1 && c2))) :=
  (pe_and ha hb).wk fun σ H Q ⟨ok, g, e, q⟩ => ⟨ok, g, e, fun _ v H1 kb f ok1 hv => ⟨c1, hv, by
    cases c1 with
    | true => exact iteT ⟨ok1, g, e, fun _ w H2 kb2 f2 ok2 hw => q () w H2 kb2 (f.trans f2) ok2 hw⟩
    | false => exact iteF (q () _ H1 kb f ok1 rfl)⟩⟩
end
section
variable {a b : Expr} {rest : List Expr} {pos : Pos} {β1 β2 S : Type} {T : Option γ} {c1 : β1 → Bool} {c2 : β1 → β2 → Bool} {Δ1 : β1 → Δs} {Δ2 : β1 → β2 → Δs} {T2 : β1 → Option (Bool × S)} {s1 : β1 → S} {s2 : β1 → β2 → S} {ΔS : β1 → S → Δs} {k : β1 × (Bool × S) → Option γ}
theorem w_andM (ha : PT X a (tTs W F Γ Δ T (fun b1 => (if c1 b1 = true then T2 b1 else some (false, s1 b1)).bind fun c => k (b1, c)) c1 Δ1)) (hb : ∀ b1, PW X (.BoolOp .And (b :: rest) pos) (tTs W F Γ (Δ1 b1) (T2 b1) (fun b2 => some (c2 b1 b2, s2 b1 b2)) (c2 b1) (Δ2 b1)))
    (h1 : ∀ b1, Δ1 b1 = ΔS b1 (s1 b1)) (h2 : ∀ b1 b2, Δ2 b1 b2 = ΔS b1 (s2 b1 b2)) : PW X (.BoolOp .And (a :: b :: rest) pos) (tTs W F Γ Δ T k (fun b => b.2.1) fun b => ΔS b.1 b.2.2) :=
  (pw_and ha (pw_ex hb)).wk fun σ H Q ⟨ok, g, e, q⟩ => ⟨ok, g, e, fun b1 H1 kb f ok1 => by
    cases h : c1 b1 with
    | true =>
      try dsimp only at kb
      rw [if_pos h] at kb
      obtain ⟨cs, ec, kc⟩ := bind_some kb
      refine iteT ⟨b1, ok1, cs, ec, fun b2 H2 kb2 f2 ok2 => ?_⟩
      have ecs : (c2 b1 b2, s2 b1 b2) = cs := Option.some.inj kb2
      rw [← ecs] at kc
      rw [h2] at ok2
      exact q (b1, (c2 b1 b2, s2 b1 b2)) H2 kc (f.trans f2) ok2
    | false =>
      try dsimp only at kb
      rw [if_neg (by rw [h]; exact Bool.false_ne_true)] at kb
      rw [h1] at ok1
      exact iteF (q (b1, (false, s1 b1)) H1 kb f ok1)⟩
theorem w_orM (ha : PT X a (tTs W F Γ Δ T (fun b1 => (if c1 b1 = true then some (true, s1 b1) else T2 b1).bind fun c => k (b1, c)) c1 Δ1)) (hb : ∀ b1, PW X (.BoolOp .Or (b :: rest) pos) (tTs W F Γ (Δ1 b1) (T2 b1) (fun b2 => some (c2 b1 b2, s2 b1 b2)) (c2 b1) (Δ2 b1)))
    (h1 : ∀ b1, Δ1 b1 = ΔS b1 (s1 b1)) (h2 : ∀ b1 b2, Δ2 b1 b2 = ΔS b1 (s2 b1 b2)) : PW X (.BoolOp .Or (a :: b :: rest) pos) (tTs W F Γ Δ T k (fun b => b.2.1) fun b => ΔS b.1 b.2.2) :=
  (pw_or ha (pw_ex hb)).wk fun σ H Q ⟨ok, g, e, q⟩ => ⟨ok, g, e, fun b1 H1 kb f ok1 => by
    cases h : c1 b1 with
    | true =>
      try dsimp only at kb
      rw [if_pos h] at kb
      rw [h1] at ok1
      exact iteT (q (b1, (true, s1 b1)) H1 kb f ok1)
    | false =>
      try dsimp only at kb
      rw [if_neg (by rw [h]; exact Bool.false_ne_true)] at kb
      obtain ⟨cs, ec, kc⟩ := bind_some kb
      refine iteF ⟨b1, ok1, cs, ec, fun b2 H2 kb2 f2 ok2 => ?_⟩
      have ecs : (c2 b1 b2, s2 b1 b2) = cs := Option.some.inj kb2
      rw [← ecs] at kc
      rw [h2] at ok2
      exact q (b1, (c2 b1 b2, s2 b1 b2)) H2 kc (f.trans f2) ok2⟩
theorem v_andM (ha : PE X a (tE W F Γ Δ T (fun b1 => (if c1 b1 = true then T2 b1 else some (false, s1 b1)).bind fun c => k (b1, c)) (fun b => pBl (c1 b)) Δ1)) (hb : ∀ b1, PE X (.BoolOp .And (b :: rest) pos) (tE W F Γ (Δ1 b1) (T2 b1) (fun b2 => some (c2 b1 b2, s2 b1 b2)) (fun b2 => pBl (c2 b1 b2)) (Δ2 b1)))
    (h1 : ∀ b1, Δ1 b1 = ΔS b1 (s1 b1)) (h2 : ∀ b1 b2, Δ2 b1 b2 = ΔS b1 (s2 b1 b2)) : PE X (.BoolOp .And (a :: b :: rest) pos) (tE W F Γ Δ T k (fun b => pBl b.2.1) fun b => ΔS b.1 b.2.2) :=
  (pe_and ha (pe_ex hb)).wk fun σ H Q ⟨ok, g, e, q⟩ => ⟨ok, g, e, fun b1 v H1 kb f ok1 hv => ⟨c1 b1, hv, by
    cases h : c1 b1 with
    | true =>
      try dsimp only at kb
      rw [if_pos h] at kb
      obtain ⟨cs, ec, kc⟩ := bind_some kb
      refine iteT ⟨b1, ok1, cs, ec, fun b2 w H2 kb2 f2 ok2 hw => ?_⟩
      have ecs : (c2 b1 b2, s2 b1 b2) = cs := Option.some.inj kb2
      rw [← ecs] at kc
      rw [h2] at ok2
      exact q (b1, (c2 b1 b2, s2 b1 b2)) w H2 kc (f.trans f2) ok2 hw
    | false =>
      try dsimp only at kb
      rw [if_neg (by rw [h]; exact Bool.false_ne_true)] at kb
      rw [h1] at ok1
      exact iteF (q (b1, (false, s1 b1)) _ H1 kb f ok1 rfl)⟩⟩
theorem v_orM (ha : PE X a (tE W F Γ Δ T (fun b1 => (if c1 b1 = true then some (true, s1 b1) else T2 b1).bind fun c => k (b1, c)) (fun b => pBl (c1 b)) Δ1)) (hb : ∀ b1, PE X (.BoolOp .Or (b :: rest) pos) (tE W F Γ (Δ1 b1) (T2 b1) (fun b2 => some (c2 b1 b2, s2 b1 b2)) (fun b2 => pBl (c2 b1 b2)) (Δ2 b1)))
    (h1 : ∀ b1, Δ1 b1 = ΔS b1 (s1 b1)) (h2 : ∀ b1 b2, Δ2 b1 b2 = ΔS b1 (s2 b1 b2)) : PE X (.BoolOp .Or (a :: b :: rest) pos) (tE W F Γ Δ T k (fun b => pBl b.2.1) fun b => ΔS b.1 b.2.2) :=
  (pe_or ha (pe_ex hb)).wk fun σ H Q ⟨ok, g, e, q⟩ => ⟨ok, g, e, fun b1 v H1 kb f ok1 hv => ⟨c1 b1, hv, by
    cases h : c1 b1 with
    | true =>
      try dsimp only at kb
      rw [if_pos h] at kb
      rw [h1] at ok1
      exact iteT (q (b1, (true, s1 b1)) _ H1 kb f ok1 rfl)
    | false =>
      try dsimp only at kb
      rw [if_neg (by rw [h]; exact Bool.false_ne_true)] at kb
      obtain ⟨cs, ec, kc⟩ := bind_some kb
      refine iteF ⟨b1, ok1, cs, ec, fun b2 w H2 kb2 f2 ok2 hw => ?_⟩
      have ecs : (c2 b1 b2, s2 b1 b2) = cs := Option.some.inj kb2
      rw [← ecs] at kc
      rw [h2] at ok2
      exact q (b1, (c2 b1 b2, s2 b1 b2)) w H2 kc (f.trans f2) ok2 hw⟩⟩
end
inductive Bo (S τ : Type) where
  | nx (s : S)
  | tm (t : τ)
inductive Tm (S ρ : Type) where
  | ct (s : S)
  | bk (s : S)
  | rt (r : ρ)
def fN {S : Type} (F : Fm) (C : S → Cxt) : Fn S := ⟨fun H s D => nxOk F (C s) H D.nx, fun h f => nxOk.mono h f⟩
def fB {S τ : Type} (F : Fm) (C : S → Cxt) (Tf : Fn τ) : Fn (Bo S τ) := ⟨fun H o D => match o with
  | .nx s => nxOk F (C s) H D.nx
  | .tm t => Tf.fin H t D, fun {H H' g D} h f => by
    cases g with
    | nx s => exact nxOk.mono h f
    | tm t => exact Tf.mono h f⟩
def fT {S ρ : Type} (F : Fm) (C : S → Cxt) (R : Rt ρ) : Fn (Tm S ρ) := ⟨fun H o D => match o with
  | .ct s => nxOk F (C s) H D.ct
  | .bk s => nxOk F (C s) H D.bk
  | .rt r => R r D.rt, fun {H H' g D} h f => by
    cases g with
    | ct s => exact nxOk.mono h f
    | bk s => exact nxOk.mono h f
    | rt r => exact h⟩
def Ins {γ : Type} (N : Fn γ) : Prop := ∀ H g D n, N.fin H g D → N.fin H g { D with nx := n }
theorem ins_F {ρ : Type} (R : Rt ρ) : Ins (fF R) := fun _ _ _ _ h => h
theorem ins_T {S ρ : Type} {F : Fm} {C : S → Cxt} {R : Rt ρ} : Ins (fT F C R) := fun H g D n h => by cases g <;> exact h
def inB {S τ : Type} (T : Option τ) : Option (Bo S τ) := T.bind fun t => some (.tm t)
def boK {S τ γ : Type} (k : S → Option γ) (ι : τ → γ) : Bo S τ → Option γ
  | .nx s => k s
  | .tm t => some (ι t)
variable {N : Fn γ} {rest : List Stmt}
theorem s_end {S : Type} {C : S → Cxt} {T : Option S} (s : S) (hT : T = some s) (g : SubG (C s).1 Γ) (h : (C s).2.Sublist Δ) : PSs X [] (tS F Γ Δ (fN F C) T) :=
  pss_nil.wk fun D σ H ⟨ok, g', e, f⟩ => by
    rw [hT] at e
    cases e
    exact f σ H (Fzs.refl H) (ok.wk g h)
theorem s_endB {S τ : Type} {C : S → Cxt} {Tf : Fn τ} (s : S) (g : SubG (C s).1 Γ) (h : (C s).2.Sublist Δ) : PSs X [] (tS F Γ Δ (fB F C Tf) (some (.nx s))) :=
  pss_nil.wk fun D σ H ⟨ok, g', e, f⟩ => by
    cases e
    exact f σ H (Fzs.refl H) (ok.wk g h)
theorem s_tm {S τ : Type} {C : S → Cxt} {Tf : Fn τ} {st : List Stmt} {T : Option τ} (h : PSs X st (tS F Γ Δ Tf T)) : PSs X st (tS F Γ Δ (fB F C Tf) (inB T)) :=
  h.wk fun D σ H ⟨ok, g', e, f⟩ => by
    obtain ⟨t, et, e2⟩ := bind_some e
    cases e2
    exact ⟨ok, t, et, f⟩
section
variable {ce : Expr} {A B : List Stmt} {pos : Pos} {β : Type} {T : Option γ} {c : β → Bool} {Δ' : β → Δs}
theorem s_if0 {N1 N2 : Fn γ} {t : TS} {u : TS} {k : β → Option γ} (hc : PT X ce (tTs true F Γ Δ T k c Δ')) (ha : PSs X A t) (hb : PSs X B u) (hr : PSs X rest v) {t' : TS}
    (hw : ∀ D σ H, t' D σ H → Ok F Γ Δ σ H ∧ ∃ g, T = some g ∧ ∀ b H', k b = some g → St true H H' → Ok F Γ (Δ' b) σ H' → (c b = true → t { D with nx := v D } σ H') ∧ (c b = false → u { D with nx := v D } σ H')) : PSs X (.If ce A B pos :: rest) t' :=
  (pss_cons (ps_if hc ha hb) hr).wk fun D σ H h => by
    obtain ⟨ok, g, e, q⟩ := hw D σ H h
    refine ⟨ok, g, e, fun b H' kb f ok' => ?_⟩
    obtain ⟨q1, q2⟩ := q b H' kb f ok'
    cases hcb : c b with
    | true => exact iteT (q1 hcb)
    | false => exact iteF (q2 hcb)
theorem s_ifT {T1 T2 : β → Option γ} (hI : Ins N) (hc : PT X ce (tTs true F Γ Δ T (fun b => if c b = true then T1 b else T2 b) c Δ')) (ha : ∀ b, PSs X A (tS F Γ (Δ' b) N (T1 b))) (hr : ∀ b, PSs X rest (tS F Γ (Δ' b) N (T2 b))) : PSs X (.If ce A [] pos :: rest) (tS F Γ Δ N T) :=
  s_if0 (N1 := N) (N2 := N) hc (pss_ex ha) pss_nil (pss_ex hr) fun D σ H ⟨ok, g, e, f⟩ => ⟨ok, g, e, fun b H' kb fz ok' => ⟨fun h => by
    try dsimp only at kb
    rw [if_pos h] at kb
    exact ⟨b, ok', g, kb, hI _ _ _ _ (N.mono f fz.fz)⟩, fun h => by
    try dsimp only at kb
    rw [if_neg (by rw [h]; exact Bool.false_ne_true)] at kb
    exact ⟨b, ok', g, kb, N.mono f fz.fz⟩⟩⟩
theorem s_ifB {S τ : Type} {C : S → Cxt} {Tf : Fn τ} {T : Option (Bo S τ)} {T1 : β → Option τ} {T2 : β → Option (Bo S τ)} (hI : Ins Tf) (hc : PT X ce (tTs true F Γ Δ T (fun b => if c b = true then inB (T1 b) else T2 b) c Δ')) (ha : ∀ b, PSs X A (tS F Γ (Δ' b) Tf (T1 b))) (hr : ∀ b, PSs X rest (tS F Γ (Δ' b) (fB F C Tf) (T2 b))) : PSs X (.If ce A [] pos :: rest) (tS F Γ Δ (fB F C Tf) T) :=
  s_if0 (N1 := fB F C Tf) (N2 := fB F C Tf) hc (pss_ex ha) pss_nil (pss_ex hr) fun D σ H ⟨ok, g, e, f⟩ => ⟨ok, g, e, fun b H' kb fz ok' => ⟨fun h => by
    try dsimp only at kb
    rw [if_pos h] at kb
    obtain ⟨t, et, e2⟩ := bind_some kb
    cases e2
    exact ⟨b, ok', t, et, hI _ _ _ _ (Tf.mono f fz.fz)⟩, fun h => by
    try dsimp only at kb
    rw [if_neg (by rw [h]; exact Bool.false_ne_true)] at kb
    exact ⟨b, ok', g, kb, (fB F C Tf).mono f fz.fz⟩⟩⟩
theorem s_ifN {S : Type} {C : S → Cxt} {T1 T2 : β → Option S} {k2 : β → S → Option γ} (hc : PT X ce (tTs true F Γ Δ T (fun b => (if c b = true then T1 b else T2 b).bind (k2 b)) c Δ')) (ha : ∀ b, PSs X A (tS F Γ (Δ' b) (fN F C) (T1 b))) (hb : ∀ b, PSs X B (tS F Γ (Δ' b) (fN F C) (T2 b)))
    (hr : ∀ b s, PSs X rest (tS F (C s).1 (C s).2 N (k2 b s))) : PSs X (.If ce A B pos :: rest) (tS F Γ Δ N T) :=
  s_if0 (N1 := N) (N2 := N) hc (pss_ex ha) (pss_ex hb) (pss_ex fun b => pss_ex fun s => hr b s) fun D σ H ⟨ok, g, e, f⟩ => ⟨ok, g, e, fun b H' kb fz ok' => by
    obtain ⟨s, es, ks⟩ := bind_some kb
    refine ⟨fun h => ?_, fun h => ?_⟩
    · rw [if_pos h] at es
      exact ⟨b, ok', s, es, fun σ2 H2 f2 ok2 => ⟨b, s, ok2, g, ks, N.mono f (fz.fz.trans f2)⟩⟩
    · rw [if_neg (by rw [h]; exact Bool.false_ne_true)] at es
      exact ⟨b, ok', s, es, fun σ2 H2 f2 ok2 => ⟨b, s, ok2, g, ks, N.mono f (fz.fz.trans f2)⟩⟩⟩
end
end
end L3
end
section
set_option maxHeartbeats 4000000
namespace L3
open PySem PySem.Spec PyProof.Rows L2
section
variable {X : Cx} {W : Bool} {F : Fm} {Γ : Gm} {Δ : Δs} {γ : Type}
def RdL {α : Type} (Δ : Δs) (p : Pd) (E : α → Pd) (xs : List α) : Prop := ∀ F H v, Hk F Δ H → p.pr H v → RL E xs H v
theorem rdF {α : Type} {E : α → Pd} {xs : List α} : RdL Δ (pL E xs) E xs := fun _ _ _ _ ⟨a, o, vs, e, h, z, p⟩ => ⟨a, vs, e, .inr ⟨o, h⟩, z, p⟩
theorem rdO {α : Type} {E : α → Pd} {xs : List α} {v : V} {prm : Option Nat} (j : Nat) (h : Δ[j]? = some ⟨v, oL E xs, prm⟩ := by rfl) : RdL Δ (pV v) E xs := fun F H w hk e => by
  have e : w = v := e
  subst e
  obtain ⟨G, p, vs, _, ev, hp, z, q⟩ := hk.at h
  exact ⟨p, vs, ev, .inl hp, z, q⟩
theorem paired_at {α β : Type} {P : α → β → Prop} : ∀ {xs : List α} {vs : List β} {i : Nat} {x : α}, Paired P xs vs → xs[i]? = some x → ∃ v, vs[i]? = some v ∧ P x v
  | _, _, _, _, .nil, e => by simp at e
  | _, _, 0, _, .cons r _, e => by simp at e; subst e; exact ⟨_, rfl, r⟩
  | _, _, i + 1, x, .cons _ t, e => by
    obtain ⟨v, h1, h2⟩ := paired_at (i := i) (x := x) t (by simpa using e)
    exact ⟨v, by simpa using h1, h2⟩
theorem paired_atI {α β : Type} {P : α → β → Prop} {xs : List α} {vs : List β} {i : Int} {x : α} (h : Paired P xs vs) (e : atI xs i = some x) : ∃ v, atI vs i = some v ∧ P x v := by
  unfold atI at e ⊢
  rw [← paired_len h]
  obtain ⟨j, ej, ex⟩ := bind_some e
  obtain ⟨v, hv, p⟩ := paired_at h ex
  exact ⟨v, by rw [ej]; exact hv, p⟩
theorem paired_app {α β : Type} {P : α → β → Prop} : ∀ {xs ys : List α} {vs ws : List β}, Paired P xs vs → Paired P ys ws → Paired P (xs ++ ys) (vs ++ ws)
  | _, _, _, _, .nil, s => s
  | _, _, _, _, .cons r t, s => .cons r (paired_app t s)
theorem paired_drop {α β : Type} {P : α → β → Prop} : ∀ (n : Nat) {xs : List α} {vs : List β}, Paired P xs vs → Paired P (xs.drop n) (vs.drop n)
  | 0, _, _, h => h
  | _ + 1, _, _, .nil => .nil
  | n + 1, _, _, .cons _ t => paired_drop n t
theorem paired_take {α β : Type} {P : α → β → Prop} : ∀ (n : Nat) {xs : List α} {vs : List β}, Paired P xs vs → Paired P (xs.take n) (vs.take n)
  | 0, _, _, _ => .nil
  | _ + 1, _, _, .nil => .nil
  | n + 1, _, _, .cons r t => .cons r (paired_take n t)
theorem paired_set {α β : Type} {P : α → β → Prop} {x : α} {v : β} (r : P x v) : ∀ {xs : List α} {vs : List β} (i : Nat), Paired P xs vs → Paired P (xs.set i x) (vs.set i v)
  | _, _, _, .nil => .nil
  | _, _, 0, .cons _ t => .cons r t
  | _, _, i + 1, .cons q t => .cons q (paired_set r i t)
theorem paired_ints {H : Hp} : ∀ {xs : List Int} {vs : List V}, Paired (fun x u => (pInt x).pr H u) xs vs → vs = xs.map V.int
  | _, _, .nil => rfl
  | _, _, .cons r t => by rw [List.map_cons, ← paired_ints t]; exact congrArg (· :: _) r
theorem paired_strs {H : Hp} : ∀ {xs : List Str} {vs : List V}, Paired (fun x u => (pStr x).pr H u) xs vs → vs = xs.map V.str
  | _, _, .nil => rfl
  | _, _, .cons r t => by rw [List.map_cons, ← paired_strs t]; exact congrArg (· :: _) r
theorem ints_paired {H : Hp} : ∀ xs : List Int, Paired (fun x u => (pInt x).pr H u) xs (xs.map V.int)
  | [] => .nil
  | _ :: xs => .cons rfl (ints_paired xs)
theorem strs_paired {H : Hp} : ∀ xs : List Str, Paired (fun x u => (pStr x).pr H u) xs (xs.map V.str)
  | [] => .nil
  | _ :: xs => .cons rfl (strs_paired xs)
section
variable {a b : Expr} {pos : Pos} {β1 β2 α : Type} {T : Option γ} {k1 : β1 → Option γ} {Δ1 : β1 → Δs} {Δ2 : β1 → β2 → Δs} {E1 : β1 → Pd} {Ee : α → Pd} {xs : β1 → β2 → List α} {j : β1 → β2 → Int}
theorem x_ixL {k : (β1 × β2) × α → Option γ} (ha : PE X a (tE W F Γ Δ T k1 E1 Δ1)) (hb : ∀ b1, PE X b (tE W F Γ (Δ1 b1) (k1 b1) (fun b2 => (atI (xs b1 b2) (j b1 b2)).bind fun x => k ((b1, b2), x)) (fun b => pInt (j b1 b)) (Δ2 b1)))
    (rd : ∀ b1 b2, RdL (Δ2 b1 b2) (E1 b1) Ee (xs b1 b2)) (hs : PlainIx b := by exact fun _ _ => rfl) : PE X (.Subscript a b pos) (tE W F Γ Δ T k (fun b => Ee b.2) fun b => Δ2 b.1.1 b.1.2) :=
  x2p (b_ix ix_list hs) ha hb fun b1 b2 x σ v w H Q ok e hv hw q => by
    obtain ⟨p, vs, ev, sq, _, pr⟩ := (rd b1 b2 F H v ok.hk hv).sq (K := X.K)
    obtain ⟨u, eu, pu⟩ := paired_atI pr e
    exact ⟨p, vs, j b1 b2, u, ev, hw, sq, eu, q u pu⟩
end
section
variable {a : Expr} {pos p : Pos} {β α : Type} {T : Option γ} {Δ1 : β → Δs} {E1 : β → Pd} {Ee : α → Pd} {xs : β → List α} {k : β → Option γ}
theorem x_lenL (hm : X.mg "len" = none) (ha : PE X a (tE W F Γ Δ T k E1 Δ1)) (rd : ∀ b, RdL (Δ1 b) (E1 b) Ee (xs b)) (hg : Gl X "len" := by rfl) (hs : starEach [a] X.env = (false, eval a X.env) :: starEach [] X.env := by rfl) : PE X (.Call (.Name "len" p) [a] [] pos) (tE W F Γ Δ T k (fun b => pInt ((xs b).length : Int)) Δ1) :=
  x1t (u_callB call_len_seq hg hm PySem.boot_len (by decide) (by decide) hs) ha fun b σ v H Q ok hv q => by
    obtain ⟨p, vs, ev, sq, _, pr⟩ := (rd b F H v ok.hk hv).sq (K := X.K)
    rw [ev]
    exact ⟨p, vs, rfl, .inl sq, by rw [← paired_len pr]; exact q _ rfl⟩
theorem x_intI {i : β → Int} (hm : X.mg "int" = none) (ha : PE X a (tE W F Γ Δ T k (fun b => pInt (i b)) Δ1)) (hg : Gl X "int" := by rfl) (hs : starEach [a] X.env = (false, eval a X.env) :: starEach [] X.env := by rfl) : PE X (.Call (.Name "int" p) [a] [] pos) (tE W F Γ Δ T k (fun b => pInt (i b)) Δ1) :=
  x1t (u_callTy call_int1 hg hm (by decide +kernel) (by decide) (by decide) hs) ha fun b σ v H Q ok hv q => .inl ⟨i b, by rw [show v = .int (i b) from hv], q _ rfl⟩
theorem x_intB {c : β → Bool} (hm : X.mg "int" = none) (ha : PE X a (tE W F Γ Δ T k (fun b => pBl (c b)) Δ1)) (hg : Gl X "int" := by rfl) (hs : starEach [a] X.env = (false, eval a X.env) :: starEach [] X.env := by rfl) : PE X (.Call (.Name "int" p) [a] [] pos) (tE W F Γ Δ T k (fun b => pInt (if c b then 1 else 0)) Δ1) :=
  x1t (u_callTy call_int1 hg hm (by decide +kernel) (by decide) (by decide) hs) ha fun b σ v H Q ok hv q => .inr ⟨c b, by rw [show v = .bl (c b) from hv], q _ rfl⟩
theorem x_listL (hm : X.mg "list" = none) (ha : PE X a (tE W F Γ Δ T k E1 Δ1)) (rd : ∀ b, RdL (Δ1 b) (E1 b) Ee (xs b)) (hg : Gl X "list" := by rfl) (hs : starEach [a] X.env = (false, eval a X.env) :: starEach [] X.env := by rfl) : PE X (.Call (.Name "list" p) [a] [] pos) (tO W F Γ Δ T k (fun b => oL Ee (xs b)) Δ1) :=
  x1n (u_callTy call_list_of hg hm (by decide +kernel) (by decide) (by decide) hs) ha fun b σ v H Q ok hv q => by
    obtain ⟨p, vs, ev, sq, z, pr⟩ := (rd b F H v ok.hk hv).sq (K := X.K)
    rw [ev]
    exact ⟨p, vs, rfl, .inl sq, fun l hl => q l vs hl z pr⟩
end
section
variable {N : Fn γ} {rest : List Stmt}
theorem s_setL {o i e : Expr} {pos pos' : Pos} {β0 β1 β2 α : Type} {T : Option γ} {k0 : β0 → Option γ} {k1 : β0 → β1 → Option γ} {k : (β0 × β1) × β2 → Option γ} {Δ0 : β0 → Δs} {Δ1 : β0 → β1 → Δs} {Δ2 : β0 → β1 → β2 → Δs} {Ee : α → Pd} {y : β0 → α} {n : β0 → β1 → β2 → Int} {xs : β0 → β1 → β2 → List α} {v : V} {prm : Option Nat} (j : Nat)
    (he : PE X e (tE true F Γ Δ T k0 (fun b => Ee (y b)) Δ0)) (ho : ∀ b0, PE X o (tE true F Γ (Δ0 b0) (k0 b0) (k1 b0) (fun _ => pV v) (Δ1 b0)))
    (hi : ∀ b0 b1, PE X i (tE true F Γ (Δ1 b0 b1) (k1 b0 b1) (fun b2 => (ixN (xs b0 b1 b2).length (n b0 b1 b2)).bind fun m => (fun (_ : Nat) => k ((b0, b1), b2)) m) (fun b2 => pInt (n b0 b1 b2)) (Δ2 b0 b1)))
    (hj : ∀ b0 b1 b2, (Δ2 b0 b1 b2)[j]? = some ⟨v, oL Ee (xs b0 b1 b2), prm⟩)
    (hr : ∀ b : (β0 × β1) × β2, PSs X rest (tS F Γ ((Δ2 b.1.1 b.1.2 b.2).set j ⟨v, oL Ee ((xs b.1.1 b.1.2 b.2).set ((ixN (xs b.1.1 b.1.2 b.2).length (n b.1.1 b.1.2 b.2)).getD 0) (y b.1.1)), prm⟩) N (k b)))
    (hs : swapsWithSole [.Subscript o i pos'] e pos.line X.env = pure false := by rfl) (hw : swappedStores [.Subscript o i pos'] e X.env = pure none := by rfl) (h1 : (assignEach [.Subscript o i pos'] X.env).map (·.2) = [assign (.Subscript o i pos') X.env] := by rfl)
    (ha : ∀ v, assign (.Subscript o i pos') X.env v = (do
      let ov ← holding [v] (eval o X.env)
      let iv ← holding [v, ov] (eval i X.env)
      standAt pos'
      holding [v, ov, iv] (setItem ov iv v)
      release [v, ov, iv] []) := by intro _; rfl) :
    PSs X (.Assign [.Subscript o i pos'] e pos :: rest) (tS F Γ Δ N T) :=
  (pss_cons (ps_asg he (pg_sub (pe_ex ho) (pe_ex fun b0 => pe_ex fun b1 => hi b0 b1) set_list ha) hs hw h1) (pss_ex hr)).wk fun D σ H ⟨ok, g, e, f⟩ => ⟨ok, g, e, fun b0 u H0 kb0 f0 ok0 hu => ⟨b0, ok0, g, kb0, fun b1 w H1 kb1 f1 ok1 hw => ⟨b0, b1, ok1, g, kb1, fun b2 z H2 kb2 f2 ok2 hz => by
    obtain ⟨m, em, km⟩ := bind_some kb2
    have hw : w = v := hw
    have hz : z = .int (n b0 b1 b2) := hz
    subst hw hz
    obtain ⟨G, ⟨p, vs, eG, ev, hp, zz, pr⟩, nd, turn⟩ := ok2.cell (hj b0 b1 b2)
    refine ⟨p, vs, n b0 b1 b2, m, ev, rfl, hp, by rw [← paired_len pr]; exact em, ((b0, b1), b2), ?_⟩
    have hu2 : (Ee (y b0)).pr H2 u := (Ee (y b0)).mono (f1.fz.trans f2.fz) hu
    have fzm : Fzs H2 (upd H2 p (.lst (vs.set m u))) := Fzs.mut hp fun z => z
    obtain ⟨ok3, f3⟩ := turn (upd H2 p (.lst (vs.set m u))) (oL Ee ((xs b0 b1 b2).set m (y b0))) (fun a o na e => by
      rw [upd_ne fun q => na (by
        show a ∈ G
        have eG : G = [p] := eG
        rw [eG, q]; exact List.mem_singleton.mpr rfl)]
      exact e) ⟨p, vs.set m u, eG, ev, upd_same, by rw [List.length_set]; exact zz, paired_set (P := fun x q => (Ee x).pr (upd H2 p (.lst (vs.set m u))) q) ((Ee _).mono fzm hu2) m (paired_mono (fun x _ => (Ee x).mono fzm) pr)⟩
    have em2 : (ixN (xs b0 b1 b2).length (n b0 b1 b2)).getD 0 = m := by rw [em]; rfl
    show tS F Γ _ N (k ((b0, b1), b2)) D σ _
    rw [em2]
    exact ⟨ok3, g, km, N.mono f (((f0.fz.trans f1.fz).trans f2.fz).trans f3.fz)⟩⟩⟩⟩
end
end
end L3
end
section
set_option maxHeartbeats 4000000
namespace L3
open PySem PySem.Spec PyProof.Rows L2
theorem start_gam {H : Hp} : ∀ {ps : List Pd} {vs : List V} {m : Nat}, Paired (fun p v => Pd.pr p H v) ps vs → ∀ (i : Nat) (p : Pd), (ps.map some ++ List.replicate m none)[i]? = some (some p) → ∃ v, (vs.map some ++ List.replicate m none)[i]? = some (some v) ∧ p.pr H v
  | [], _, m, .nil, i, p, e => by
    have e : (List.replicate m (none : Option Pd))[i]? = some (some p) := e
    rw [List.getElem?_replicate] at e
    split at e <;> cases e
  | _ :: _, _ :: _, m, .cons r t, 0, p, e => by
    have e : some (some _) = some (some p) := e
    cases e
    exact ⟨_, rfl, r⟩
  | _ :: _, _ :: _, m, .cons r t, i + 1, p, e => start_gam t i p e
theorem ok_start {ps : List Pd} {vs : List V} {N : List Str} {H : Hp} {Δ : List Cel} {n : Nat} (hn : vs.length = n) (h : Paired (fun p v => Pd.pr p H v) ps vs) (hd : ∀ c ∈ Δ, c.d.pr c.G H c.v) (nd : (cellsOf Δ).Nodup) (hp : ∀ (i : Nat) (c : Cel), Δ[i]? = some c → c.prm = some i) :
    Ok ⟨H, Δ.map Cel.G⟩ (ps.map some ++ List.replicate (N.length - n) none) (Δ.map Cel.fg) (L2.start N vs) H := by
  subst hn
  refine ⟨⟨Δ, rfl, fun _ _ e _ => e, hd, nd, fun c hc a ha => .inr ?_, fun m hm a ha => ?_⟩, ?_, fun i p e => start_gam h i p e⟩
  · obtain ⟨i, hi⟩ := List.getElem?_of_mem hc
    exact ⟨i, c.G, hp i c hi, by rw [List.getElem?_map, hi]; rfl, ha⟩
  · obtain ⟨c, hc, e⟩ := List.mem_map.mp hm
    subst e
    obtain ⟨o, e, _⟩ := c.d.cellsN (hd c hc) a ha
    exact ⟨o, e⟩
  · unfold L2.start
    rw [List.length_append, List.length_append, List.length_map, List.length_map, List.length_replicate, List.length_replicate, paired_len h]
section
variable {F : Fm} {Γ : Gm} {Δ : Δs} {σ : SS} {H H' : Hp} {W : Bool}
theorem call_f0 (ok : Ok F Γ Δ σ H) (hk : Hk ⟨H, []⟩ [] H') : Ok F Γ Δ σ H' ∧ St W H H' := by
  obtain ⟨_, _, hk⟩ := hk
  have g : Gr H H' := fun a o e => hk.base a o e fun _ h => nomatch h
  exact ⟨ok.gr g, g.st⟩
theorem call_o0 {v : V} {d : Od} (ok : Ok F Γ Δ σ H) (hk : Hk ⟨H, []⟩ [⟨v, d, none⟩] H') : OkN W F Γ H v d Δ σ H' ∧ St W H H' := by
  obtain ⟨Δ0, e, hk⟩ := hk
  match Δ0, e with
  | [⟨G, _, _, _⟩], e =>
    cases e
    have g : Gr H H' := fun a o e => hk.base a o e fun _ h => nomatch h
    have nw : ∀ a ∈ G, H a = none := fun a ha => by
      rcases hk.own _ (List.mem_singleton.mpr rfl) a ha with z | ⟨i, m, z, _⟩
      · exact z
      · cases z
    exact ⟨ok.add g hk.ndup.1 nw (hk.del _ (List.mem_singleton.mpr rfl)), g.st⟩
theorem lendO {Δ1 Δ2 : List Cel} (k : HkO F (Δ1 ++ Δ2) H) {Δ1' N : List Cel} (hk : HkO ⟨H, Δ1.map Cel.G⟩ (N ++ Δ1') H') (hl : Δ1'.length = Δ1.length) (hi : ∀ (i : Nat) (c : Cel), Δ1'[i]? = some c → c.prm = some i) (hN : ∀ c ∈ N, c.prm = none) {Δ1o : List Cel} (ho : Δ1o.length = Δ1.length) (hoe : ∀ (i : Nat) (c c' e : Cel), Δ1[i]? = some c → Δ1'[i]? = some c' → Δ1o[i]? = some e → e = ⟨c'.G, c'.v, c'.d, c.prm⟩) :
    HkO F (N ++ Δ1o ++ Δ2) H' ∧ St true H H' ∧ ∀ c ∈ N, ∀ a ∈ c.G, H a = none := by
  have hG : ∀ a, a ∈ cellsOf Δ1 ↔ ∃ m ∈ Δ1.map Cel.G, a ∈ m := fun a => by
    unfold cellsOf
    rw [List.mem_flatMap]
    constructor
    · rintro ⟨c, hc, ha⟩; exact ⟨c.G, List.mem_map.mpr ⟨c, hc, rfl⟩, ha⟩
    · rintro ⟨m, hm, ha⟩
      obtain ⟨c, hc, e⟩ := List.mem_map.mp hm
      subst e
      exact ⟨c, hc, ha⟩
  have kp : ∀ a o, a ∉ cellsOf Δ1 → H a = some o → H' a = some o := fun a o n e => hk.base a o e fun m hm ha => n ((hG a).mpr ⟨m, hm, ha⟩)
  have k1 : HkO F Δ1 H := k.less (List.sublist_append_left _ _)
  have k2 : HkO F Δ2 H := k.less (List.sublist_append_right _ _)
  have fz : Fzs H H' := fun a o p e => kp a o (fun ha => by
    obtain ⟨u, eu, nu⟩ := k1.isC ha
    rw [e] at eu; cases eu; exact nu p) e
  have dom : ∀ a o, H a = some o → ∃ u, H' a = some u := fun a o e => by
    by_cases ha : a ∈ cellsOf Δ1
    · obtain ⟨m, hm, ha⟩ := (hG a).mp ha
      exact hk.mem m hm a ha
    · exact ⟨o, kp a o ha e⟩
  have nd := k.nod
  rw [cellsOf_app] at nd
  obtain ⟨nd1, nd2, nd3⟩ := List.nodup_append.mp nd
  -- what a cell of the def's end owns
  have ownN : ∀ c ∈ N, ∀ a ∈ c.G, H a = none := fun c hc a ha => by
    rcases hk.own c (List.mem_append_left _ hc) a ha with z | ⟨i, m, z, _⟩
    · exact z
    · rw [hN c hc] at z; cases z
  have own1 : ∀ (i : Nat) (c' : Cel), Δ1'[i]? = some c' → ∀ a ∈ c'.G, H a = none ∨ ∃ c, Δ1[i]? = some c ∧ a ∈ c.G := fun i c' h a ha => by
    rcases hk.own c' (List.mem_append_right _ (List.mem_of_getElem? h)) a ha with z | ⟨q, m, z, hm, hin⟩
    · exact .inl z
    · rw [hi i c' h] at z
      cases z
      have hm : (Δ1.map Cel.G)[i]? = some m := hm
      rw [List.getElem?_map] at hm
      cases e : Δ1[i]? with
      | none => rw [e] at hm; cases hm
      | some c =>
        rw [e] at hm
        cases hm
        exact .inr ⟨c, rfl, hin⟩
  have cof : ∀ (i : Nat) (e : Cel), Δ1o[i]? = some e → ∃ c c', Δ1[i]? = some c ∧ Δ1'[i]? = some c' ∧ e = ⟨c'.G, c'.v, c'.d, c.prm⟩ := fun i e h => by
    have hl1 : i < Δ1o.length := by
      by_cases x : i < Δ1o.length
      · exact x
      · rw [List.getElem?_eq_none (by omega)] at h; cases h
    have e1 := List.getElem?_eq_getElem (l := Δ1) (i := i) (by omega)
    have e2 := List.getElem?_eq_getElem (l := Δ1') (i := i) (by omega)
    exact ⟨_, _, e1, e2, hoe i _ _ e e1 e2 h⟩
  have eqG : Δ1o.map Cel.G = Δ1'.map Cel.G := by
    apply List.ext_getElem?
    intro i
    rw [List.getElem?_map, List.getElem?_map]
    by_cases hl1 : i < Δ1o.length
    · obtain ⟨c, c', _, e2, e3⟩ := cof i _ (List.getElem?_eq_getElem hl1)
      rw [List.getElem?_eq_getElem hl1, e2, e3]
      rfl
    · rw [List.getElem?_eq_none (by omega), List.getElem?_eq_none (by omega)]
  have eqC : cellsOf Δ1o = cellsOf Δ1' := by
    unfold cellsOf
    rw [List.flatMap_def, List.flatMap_def, eqG]
  refine ⟨⟨fun a o e m => kp a o (fun ha => ?_) (k.base a o e m), fun c hc => ?_, ?_, fun c hc a ha => ?_, fun m hm a ha => ?_⟩, ⟨fz, (fun h => nomatch h), dom⟩, ownN⟩
  · obtain ⟨c, hc, ha⟩ := List.mem_flatMap.mp ha
    rcases k1.own c hc a ha with z | ⟨i, w, _, hw, z⟩
    · rw [e] at z; cases z
    · exact m w (List.mem_of_getElem? hw) z
  · rcases List.mem_append.mp hc with hc | hc
    · rcases List.mem_append.mp hc with hc | hc
      · exact hk.del c (List.mem_append_left _ hc)
      · obtain ⟨i, h⟩ := List.getElem?_of_mem hc
        obtain ⟨d, d', _, e2, e3⟩ := cof i c h
        subst e3
        exact hk.del d' (List.mem_append_right _ (List.mem_of_getElem? e2))
    · exact c.d.frame (k2.del c hc) (fun a ha o q => kp a o (fun h1 => nd3 a h1 a (mem_cellsOf hc ha) rfl) q) fz
  · rw [cellsOf_app, cellsOf_app, eqC, ← cellsOf_app]
    refine List.nodup_append.mpr ⟨hk.nod, nd2, fun a ha b hb e => ?_⟩
    subst e
    obtain ⟨o2, e2, _⟩ := k2.isC hb
    rw [cellsOf_app] at ha
    rcases List.mem_append.mp ha with ha | ha
    · obtain ⟨c, hc, ha⟩ := List.mem_flatMap.mp ha
      rw [ownN c hc a ha] at e2; cases e2
    · obtain ⟨c', hc, ha⟩ := List.mem_flatMap.mp ha
      obtain ⟨i, h⟩ := List.getElem?_of_mem hc
      rcases own1 i c' h a ha with z | ⟨c, e1, z⟩
      · rw [z] at e2; cases e2
      · exact nd3 a (mem_cellsOf (List.mem_of_getElem? e1) z) a hb rfl
  · rcases List.mem_append.mp hc with hc | hc
    · rcases List.mem_append.mp hc with hc | hc
      · exact .inl (k.fresh0 (ownN c hc a ha))
      · obtain ⟨i, h⟩ := List.getElem?_of_mem hc
        obtain ⟨d, d', e1, e2, e3⟩ := cof i c h
        subst e3
        rcases own1 i d' e2 a ha with z | ⟨c, e4, z⟩
        · exact .inl (k.fresh0 z)
        · rw [e1] at e4
          cases e4
          exact k1.own d (List.mem_of_getElem? e1) a z
    · exact k2.own c hc a ha
  · obtain ⟨o, e⟩ := k.mem m hm a ha
    exact dom a o e
theorem map_one {Δ1 : List Cel} {c : Cell} (e : Δ1.map Cel.fg = [c]) : ∃ G, Δ1 = [⟨G, c.v, c.d, c.prm⟩] := by
  cases Δ1 with
  | nil => cases e
  | cons y r =>
    cases r with
    | cons _ _ => cases e
    | nil => cases e; exact ⟨y.G, rfl⟩
theorem map_two {Δ1 : List Cel} {c d : Cell} (e : Δ1.map Cel.fg = [c, d]) : ∃ G G2, Δ1 = [⟨G, c.v, c.d, c.prm⟩, ⟨G2, d.v, d.d, d.prm⟩] := by
  cases Δ1 with
  | nil => cases e
  | cons y r =>
    cases r with
    | nil => cases e
    | cons z r =>
      cases r with
      | cons _ _ => cases e
      | nil => cases e; exact ⟨y.G, z.G, rfl⟩
theorem Ok.lend1 {j : Nat} {c : Cell} (ok : Ok F Γ Δ σ H) (hj : Δ[j]? = some c) : ∃ G, c.d.pr G H c.v ∧ G.Nodup ∧ (∀ H' d', Hk ⟨H, [G]⟩ [⟨c.v, d', some 0⟩] H' → Ok F Γ (Δ.set j { c with d := d' }) σ H' ∧ St true H H') ∧
    ∀ H' d' v2 d2, Hk ⟨H, [G]⟩ [⟨v2, d2, none⟩, ⟨c.v, d', some 0⟩] H' → OkN true F Γ H v2 d2 (Δ.set j { c with d := d' }) σ H' ∧ St true H H' := by
  obtain ⟨⟨Δ0, e, k⟩, n⟩ := ok
  subst e
  obtain ⟨A, x, B, e0, el, ex⟩ := map_at hj
  subst e0
  subst ex
  have k1 : HkO F ([x] ++ (A ++ B)) H := k.perm mid_perm
  have nd := (k.perm mid_perm).ndup.1
  refine ⟨x.G, k1.del x List.mem_cons_self, nd, fun H' d' hk => ?_, fun H' d' v2 d2 hk => ?_⟩
  · obtain ⟨Δ1, e1, hk⟩ := hk
    obtain ⟨yG, e2⟩ := map_one e1
    subst e2
    ·
      obtain ⟨r, st, _⟩ := lendO (Δ1 := [x]) (N := []) (Δ1' := [⟨yG, x.v, d', some 0⟩]) (Δ1o := [⟨yG, x.v, d', x.prm⟩]) k1 hk rfl (fun i c h => by
        match i, h with
        | 0, h => cases h; rfl
        | _ + 1, h => cases h) (fun _ h => nomatch h) rfl (fun i c c' e h1 h2 h3 => by
        match i, h1, h2, h3 with
        | 0, h1, h2, h3 => cases h1; cases h2; cases h3; rfl
        | _ + 1, h1, _, _ => cases h1)
      refine ⟨⟨⟨A ++ ⟨yG, x.v, d', x.prm⟩ :: B, ?_, HkO.perm (Δ := ⟨yG, x.v, d', x.prm⟩ :: (A ++ B)) r mid_perm.symm⟩, n.mono st.fz⟩, st⟩
      rw [← el]
      exact map_set
  · obtain ⟨Δ1, e1, hk⟩ := hk
    obtain ⟨zG, yG, e2⟩ := map_two e1
    subst e2
    ·
      obtain ⟨r, st, nw⟩ := lendO (Δ1 := [x]) (N := [⟨zG, v2, d2, none⟩]) (Δ1' := [⟨yG, x.v, d', some 0⟩]) (Δ1o := [⟨yG, x.v, d', x.prm⟩]) k1 hk rfl (fun i c h => by
        match i, h with
        | 0, h => cases h; rfl
        | _ + 1, h => cases h) (fun c h => by rw [List.mem_singleton.mp h]) rfl (fun i c c' e h1 h2 h3 => by
        match i, h1, h2, h3 with
        | 0, h1, h2, h3 => cases h1; cases h2; cases h3; rfl
        | _ + 1, h1, _, _ => cases h1)
      refine ⟨⟨A ++ ⟨yG, x.v, d', x.prm⟩ :: B, zG, ?_, HkO.perm (Δ := ⟨zG, v2, d2, none⟩ :: ⟨yG, x.v, d', x.prm⟩ :: (A ++ B)) r (List.Perm.cons _ mid_perm.symm), (fun h => nomatch h), n.mono st.fz⟩, st⟩
      rw [← el]
      exact map_set
end
end L3
end
section
set_option maxHeartbeats 4000000
namespace L3
open PySem PySem.Spec PyProof.Rows L2
def Sp_FFF_f {α1 α2 α3 ρ : Type} (E1 : α1 → Pd) (E2 : α2 → Pd) (E3 : α3 → Pd) (Mf : α1 → α2 → α3 → Option (ρ)) (Rp : ρ → Pd) : Sp := fun vs H Q _ => ∃ (v1 v2 v3 : V)  (a1 : α1) (a2 : α2) (a3 : α3), vs = [v1, v2, v3] ∧ (E1 a1).pr H v1 ∧ (E2 a2).pr H v2 ∧ (E3 a3).pr H v3 ∧ ∃ r, Mf a1 a2 a3 = some r ∧ RF ⟨H, []⟩ (fun _ => []) (Rp) r Q
theorem fn_FFF_f {P : Program} {w : World} {K : PySem.W.Frag} {mg : Str → Option Value} {base : Heap} {x qual : Str} {params : Arguments} {body : List Stmt} {scope : Scope} {dvs : List V} {kws : List (Str × V)} {f : Addr} {fd : FuncData} {N ps : List Str} {k : Nat} {α1 α2 α3 ρ : Type} {E1 : α1 → Pd} {E2 : α2 → Pd} {E3 : α3 → Pd} {Mf : α1 → α2 → α3 → Option (ρ)} {Rp : ρ → Pd}
    (FD : FunD K x qual params body scope dvs kws f fd) (S : FnScope N ps scope) (hl : 3 = ps.length)
    (hb : ∀ (cdv : Value) (A : Around) (outer : List Env) (s : Shared) (H : Hp) (E : XK) (hr : Room k (A.deeper (envOfC qual scope s.heap.objs.size f cdv)))  (a1 : α1) (a2 : α2) (a3 : α3), PSs (cxOf CX0 P w K mg base N qual scope f cdv A outer s H E).nox body
      (tS ⟨H, []⟩ (([E1 a1, E2 a2, E3 a3] : List Pd).map some ++ List.replicate (N.length - 3) none) [] (fF (RF ⟨H, []⟩ (fun _ => []) (Rp))) (Mf a1 a2 a3))) : FnOk P w K mg base CX0 (k + 1) f fd ps (Sp_FFF_f E1 E2 E3 Mf Rp) := by
  refine FD.ok S (fun vs H Q E h => ?_) (fun cdv A outer s H vs Q E hr h => ?_)
  · obtain ⟨v1, v2, v3, a1, a2, a3, rfl, _⟩ := h
    exact hl
  · obtain ⟨v1, v2, v3, a1, a2, a3, rfl, p1, p2, p3, r, hM, fin⟩ := h
    refine ⟨_, PSs.nox (hb cdv A outer s H E hr  a1 a2 a3), ok_start (Δ := []) rfl (.cons p1 (.cons p2 (.cons p3 (.nil)))) ?_ ?_ ?_, r, hM, fin⟩
    · exact fun _ h => nomatch h
    · exact List.nodup_nil
    · exact fun _ _ h => nomatch h
theorem x_FFF_f {X : Cx} {W : Bool} {F : Fm} {Γ : Gm} {Δ : Δs} {γ : Type} {x : Str} {p pos : Pos} {e1 e2 e3 : Expr} {f : Addr} {fd : FuncData} {ps : List Str} {kk : Nat} {α1 α2 α3 ρ β1 β2 β3 : Type} {E1 : α1 → Pd} {E2 : α2 → Pd} {E3 : α3 → Pd} {Mf : α1 → α2 → α3 → Option (ρ)} {Rp : ρ → Pd} {T : Option γ} {Δ1 : β1 → Δs} {x1 : β1 → α1} {k1 : β1 → Option γ} {Δ2 : β1 → β2 → Δs} {x2 : β1 → β2 → α2} {k2 : β1 → β2 → Option γ} {Δ3 : β1 → β2 → β3 → Δs} {x3 : β1 → β2 → β3 → α3} {k : (β1 × β2 × β3) × (ρ) → Option γ}
    (G : FnOk X.prog X.w X.K X.mg X.base CX0 kk f fd ps (Sp_FFF_f E1 E2 E3 Mf Rp)) (hr : Room kk X.A) (hm : X.mg x = some (.ref f)) (hk : PySem.W.keepIn X.K (.ref f) = true) (hb : Binds X.K fd ps []) (h1 : PE X e1 (tE W F Γ Δ T (k1) (fun b1 => E1 (x1 b1)) (Δ1))) (h2 : ∀ b1, PE X e2 (tE W F Γ (Δ1 b1) (k1 b1) (k2 b1) (fun b2 => E2 (x2 b1 b2)) (Δ2 b1))) (h3 : ∀ b1 b2, PE X e3 (tE W F Γ (Δ2 b1 b2) (k2 b1 b2) (fun b3 => (Mf (x1 b1) (x2 b1 b2) (x3 b1 b2 b3)).bind fun r => k ((b1, b2, b3), r)) (fun b3 => E3 (x3 b1 b2 b3)) (Δ3 b1 b2)))
     (hg : Gl X x := by rfl) (hdb : (x == ("__debug__" : Str)) = false := by decide) (st1 : starEach [e1, e2, e3] X.env = (false, eval e1 X.env) :: starEach [e2, e3] X.env := by rfl) (st2 : starEach [e2, e3] X.env = (false, eval e2 X.env) :: starEach [e3] X.env := by rfl) (st3 : starEach [e3] X.env = (false, eval e3 X.env) :: starEach [] X.env := by rfl) (hpl : (backTo pos (starEach [e2, e3] X.env)).any (·.1) = false := by rfl) :
    PE X (.Call (.Name x p) [e1, e2, e3] [] pos) (tE W F Γ Δ T k (fun b => Rp b.2) fun b => Δ3 b.1.1 b.1.2.1 b.1.2.2) :=
  (pe_call G hr hg hm hk hb .nil pass0 (pa_cons h1 (pa_cons (pe_ex fun b1 => h2 b1) (pa_cons (pe_ex fun b1 => pe_ex fun b2 => h3 b1 b2) pa_nil st3) st2) st1) hdb st1 hpl).wk fun σ H Q ⟨ok, g, e, q⟩ => ⟨ok, g, e, fun b1 v1 H1 kb1 f1 ok1 hv1 => ⟨b1, ok1, g, kb1, fun b2 v2 H2 kb2 f2 ok2 hv2 => ⟨b1, b2, ok2, g, kb2, fun b3 v3 H3 kb3 f3 ok3 hv3 => by
    obtain ⟨r, er, kr⟩ := bind_some kb3
    refine ⟨v1, v2, v3, x1 b1, x2 b1 b2, x3 b1 b2 b3, rfl, ((E1 _).mono (f2.fz.trans f3.fz) hv1), ((E2 _).mono f3.fz hv2), hv3, r, er, fun v H' hk hv => ?_⟩
    obtain ⟨ok', st⟩ := call_f0 (W := W) ok3 hk
    exact q ((b1, b2, b3), r) v H' kr (((f1.trans f2).trans f3).trans st) ok' hv⟩⟩⟩
def Sp_FF_f {α1 α2 ρ : Type} (E1 : α1 → Pd) (E2 : α2 → Pd) (Mf : α1 → α2 → Option (ρ)) (Rp : ρ → Pd) : Sp := fun vs H Q _ => ∃ (v1 v2 : V)  (a1 : α1) (a2 : α2), vs = [v1, v2] ∧ (E1 a1).pr H v1 ∧ (E2 a2).pr H v2 ∧ ∃ r, Mf a1 a2 = some r ∧ RF ⟨H, []⟩ (fun _ => []) (Rp) r Q
theorem fn_FF_f {P : Program} {w : World} {K : PySem.W.Frag} {mg : Str → Option Value} {base : Heap} {x qual : Str} {params : Arguments} {body : List Stmt} {scope : Scope} {dvs : List V} {kws : List (Str × V)} {f : Addr} {fd : FuncData} {N ps : List Str} {k : Nat} {α1 α2 ρ : Type} {E1 : α1 → Pd} {E2 : α2 → Pd} {Mf : α1 → α2 → Option (ρ)} {Rp : ρ → Pd}
    (FD : FunD K x qual params body scope dvs kws f fd) (S : FnScope N ps scope) (hl : 2 = ps.length)
    (hb : ∀ (cdv : Value) (A : Around) (outer : List Env) (s : Shared) (H : Hp) (E : XK) (hr : Room k (A.deeper (envOfC qual scope s.heap.objs.size f cdv)))  (a1 : α1) (a2 : α2), PSs (cxOf CX0 P w K mg base N qual scope f cdv A outer s H E).nox body
      (tS ⟨H, []⟩ (([E1 a1, E2 a2] : List Pd).map some ++ List.replicate (N.length - 2) none) [] (fF (RF ⟨H, []⟩ (fun _ => []) (Rp))) (Mf a1 a2))) : FnOk P w K mg base CX0 (k + 1) f fd ps (Sp_FF_f E1 E2 Mf Rp) := by
  refine FD.ok S (fun vs H Q E h => ?_) (fun cdv A outer s H vs Q E hr h => ?_)
  · obtain ⟨v1, v2, a1, a2, rfl, _⟩ := h
    exact hl
  · obtain ⟨v1, v2, a1, a2, rfl, p1, p2, r, hM, fin⟩ := h
    refine ⟨_, PSs.nox (hb cdv A outer s H E hr  a1 a2), ok_start (Δ := []) rfl (.cons p1 (.cons p2 (.nil))) ?_ ?_ ?_, r, hM, fin⟩
    · exact fun _ h => nomatch h
    · exact List.nodup_nil
    · exact fun _ _ h => nomatch h
theorem x_FF_f {X : Cx} {W : Bool} {F : Fm} {Γ : Gm} {Δ : Δs} {γ : Type} {x : Str} {p pos : Pos} {e1 e2 : Expr} {f : Addr} {fd : FuncData} {ps : List Str} {kk : Nat} {α1 α2 ρ β1 β2 : Type} {E1 : α1 → Pd} {E2 : α2 → Pd} {Mf : α1 → α2 → Option (ρ)} {Rp : ρ → Pd} {T : Option γ} {Δ1 : β1 → Δs} {x1 : β1 → α1} {k1 : β1 → Option γ} {Δ2 : β1 → β2 → Δs} {x2 : β1 → β2 → α2} {k : (β1 × β2) × (ρ) → Option γ}
    (G : FnOk X.prog X.w X.K X.mg X.base CX0 kk f fd ps (Sp_FF_f E1 E2 Mf Rp)) (hr : Room kk X.A) (hm : X.mg x = some (.ref f)) (hk : PySem.W.keepIn X.K (.ref f) = true) (hb : Binds X.K fd ps []) (h1 : PE X e1 (tE W F Γ Δ T (k1) (fun b1 => E1 (x1 b1)) (Δ1))) (h2 : ∀ b1, PE X e2 (tE W F Γ (Δ1 b1) (k1 b1) (fun b2 => (Mf (x1 b1) (x2 b1 b2)).bind fun r => k ((b1, b2), r)) (fun b2 => E2 (x2 b1 b2)) (Δ2 b1)))
     (hg : Gl X x := by rfl) (hdb : (x == ("__debug__" : Str)) = false := by decide) (st1 : starEach [e1, e2] X.env = (false, eval e1 X.env) :: starEach [e2] X.env := by rfl) (st2 : starEach [e2] X.env = (false, eval e2 X.env) :: starEach [] X.env := by rfl) (hpl : (backTo pos (starEach [e2] X.env)).any (·.1) = false := by rfl) :
    PE X (.Call (.Name x p) [e1, e2] [] pos) (tE W F Γ Δ T k (fun b => Rp b.2) fun b => Δ2 b.1.1 b.1.2) :=
  (pe_call G hr hg hm hk hb .nil pass0 (pa_cons h1 (pa_cons (pe_ex fun b1 => h2 b1) pa_nil st2) st1) hdb st1 hpl).wk fun σ H Q ⟨ok, g, e, q⟩ => ⟨ok, g, e, fun b1 v1 H1 kb1 f1 ok1 hv1 => ⟨b1, ok1, g, kb1, fun b2 v2 H2 kb2 f2 ok2 hv2 => by
    obtain ⟨r, er, kr⟩ := bind_some kb2
    refine ⟨v1, v2, x1 b1, x2 b1 b2, rfl, ((E1 _).mono f2.fz hv1), hv2, r, er, fun v H' hk hv => ?_⟩
    obtain ⟨ok', st⟩ := call_f0 (W := W) ok2 hk
    exact q ((b1, b2), r) v H' kr ((f1.trans f2).trans st) ok' hv⟩⟩
def Sp_FF_o {α1 α2 ρ : Type} (E1 : α1 → Pd) (E2 : α2 → Pd) (Mf : α1 → α2 → Option (ρ)) (Rp : ρ → Od) : Sp := fun vs H Q _ => ∃ (v1 v2 : V)  (a1 : α1) (a2 : α2), vs = [v1, v2] ∧ (E1 a1).pr H v1 ∧ (E2 a2).pr H v2 ∧ ∃ r, Mf a1 a2 = some r ∧ RO ⟨H, []⟩ (fun _ => []) (Rp) r Q
theorem fn_FF_o {P : Program} {w : World} {K : PySem.W.Frag} {mg : Str → Option Value} {base : Heap} {x qual : Str} {params : Arguments} {body : List Stmt} {scope : Scope} {dvs : List V} {kws : List (Str × V)} {f : Addr} {fd : FuncData} {N ps : List Str} {k : Nat} {α1 α2 ρ : Type} {E1 : α1 → Pd} {E2 : α2 → Pd} {Mf : α1 → α2 → Option (ρ)} {Rp : ρ → Od}
    (FD : FunD K x qual params body scope dvs kws f fd) (S : FnScope N ps scope) (hl : 2 = ps.length)
    (hb : ∀ (cdv : Value) (A : Around) (outer : List Env) (s : Shared) (H : Hp) (E : XK) (hr : Room k (A.deeper (envOfC qual scope s.heap.objs.size f cdv)))  (a1 : α1) (a2 : α2), PSs (cxOf CX0 P w K mg base N qual scope f cdv A outer s H E).nox body
      (tS ⟨H, []⟩ (([E1 a1, E2 a2] : List Pd).map some ++ List.replicate (N.length - 2) none) [] (fF (RO ⟨H, []⟩ (fun _ => []) (Rp))) (Mf a1 a2))) : FnOk P w K mg base CX0 (k + 1) f fd ps (Sp_FF_o E1 E2 Mf Rp) := by
  refine FD.ok S (fun vs H Q E h => ?_) (fun cdv A outer s H vs Q E hr h => ?_)
  · obtain ⟨v1, v2, a1, a2, rfl, _⟩ := h
    exact hl
  · obtain ⟨v1, v2, a1, a2, rfl, p1, p2, r, hM, fin⟩ := h
    refine ⟨_, PSs.nox (hb cdv A outer s H E hr  a1 a2), ok_start (Δ := []) rfl (.cons p1 (.cons p2 (.nil))) ?_ ?_ ?_, r, hM, fin⟩
    · exact fun _ h => nomatch h
    · exact List.nodup_nil
    · exact fun _ _ h => nomatch h
theorem x_FF_o {X : Cx} {W : Bool} {F : Fm} {Γ : Gm} {Δ : Δs} {γ : Type} {x : Str} {p pos : Pos} {e1 e2 : Expr} {f : Addr} {fd : FuncData} {ps : List Str} {kk : Nat} {α1 α2 ρ β1 β2 : Type} {E1 : α1 → Pd} {E2 : α2 → Pd} {Mf : α1 → α2 → Option (ρ)} {Rp : ρ → Od} {T : Option γ} {Δ1 : β1 → Δs} {x1 : β1 → α1} {k1 : β1 → Option γ} {Δ2 : β1 → β2 → Δs} {x2 : β1 → β2 → α2} {k : (β1 × β2) × (ρ) → Option γ}
    (G : FnOk X.prog X.w X.K X.mg X.base CX0 kk f fd ps (Sp_FF_o E1 E2 Mf Rp)) (hr : Room kk X.A) (hm : X.mg x = some (.ref f)) (hk : PySem.W.keepIn X.K (.ref f) = true) (hb : Binds X.K fd ps []) (h1 : PE X e1 (tE W F Γ Δ T (k1) (fun b1 => E1 (x1 b1)) (Δ1))) (h2 : ∀ b1, PE X e2 (tE W F Γ (Δ1 b1) (k1 b1) (fun b2 => (Mf (x1 b1) (x2 b1 b2)).bind fun r => k ((b1, b2), r)) (fun b2 => E2 (x2 b1 b2)) (Δ2 b1)))
     (hg : Gl X x := by rfl) (hdb : (x == ("__debug__" : Str)) = false := by decide) (st1 : starEach [e1, e2] X.env = (false, eval e1 X.env) :: starEach [e2] X.env := by rfl) (st2 : starEach [e2] X.env = (false, eval e2 X.env) :: starEach [] X.env := by rfl) (hpl : (backTo pos (starEach [e2] X.env)).any (·.1) = false := by rfl) :
    PE X (.Call (.Name x p) [e1, e2] [] pos) (tO W F Γ Δ T k (fun b => Rp b.2) fun b => Δ2 b.1.1 b.1.2) :=
  (pe_call G hr hg hm hk hb .nil pass0 (pa_cons h1 (pa_cons (pe_ex fun b1 => h2 b1) pa_nil st2) st1) hdb st1 hpl).wk fun σ H Q ⟨ok, g, e, q⟩ => ⟨ok, g, e, fun b1 v1 H1 kb1 f1 ok1 hv1 => ⟨b1, ok1, g, kb1, fun b2 v2 H2 kb2 f2 ok2 hv2 => by
    obtain ⟨r, er, kr⟩ := bind_some kb2
    refine ⟨v1, v2, x1 b1, x2 b1 b2, rfl, ((E1 _).mono f2.fz hv1), hv2, r, er, fun v H' hk => ?_⟩
    obtain ⟨ok', st⟩ := call_o0 (W := W) ok2 hk
    exact q ((b1, b2), r) v H' kr ((f1.trans f2).trans st) (ok'.since (f1.trans f2))⟩⟩
def Sp_FO_f {α1 α2 ρ : Type} (E1 : α1 → Pd) (E2 : α2 → Od) (Mf : α1 → α2 → Option (ρ × α2)) (Rp : ρ → Pd) : Sp := fun vs H Q _ => ∃ (v1 v2 : V) (G2 : List Addr) (a1 : α1) (a2 : α2), vs = [v1, v2] ∧ (E1 a1).pr H v1 ∧ (E2 a2).pr G2 H v2 ∧ G2.Nodup ∧ ∃ r, Mf a1 a2 = some r ∧ RF ⟨H, [G2]⟩ (fun r => [⟨v2, E2 r.2, some 0⟩]) (fun r => Rp r.1) r Q
theorem fn_FO_f {P : Program} {w : World} {K : PySem.W.Frag} {mg : Str → Option Value} {base : Heap} {x qual : Str} {params : Arguments} {body : List Stmt} {scope : Scope} {dvs : List V} {kws : List (Str × V)} {f : Addr} {fd : FuncData} {N ps : List Str} {k : Nat} {α1 α2 ρ : Type} {E1 : α1 → Pd} {E2 : α2 → Od} {Mf : α1 → α2 → Option (ρ × α2)} {Rp : ρ → Pd}
    (FD : FunD K x qual params body scope dvs kws f fd) (S : FnScope N ps scope) (hl : 2 = ps.length)
    (hb : ∀ (cdv : Value) (A : Around) (outer : List Env) (s : Shared) (H : Hp) (E : XK) (hr : Room k (A.deeper (envOfC qual scope s.heap.objs.size f cdv))) (v2 : V) (G2 : List Addr) (a1 : α1) (a2 : α2), PSs (cxOf CX0 P w K mg base N qual scope f cdv A outer s H E).nox body
      (tS ⟨H, [G2]⟩ (([E1 a1, pV v2] : List Pd).map some ++ List.replicate (N.length - 2) none) [⟨v2, E2 a2, some 0⟩] (fF (RF ⟨H, [G2]⟩ (fun r => [⟨v2, E2 r.2, some 0⟩]) (fun r => Rp r.1))) (Mf a1 a2))) : FnOk P w K mg base CX0 (k + 1) f fd ps (Sp_FO_f E1 E2 Mf Rp) := by
  refine FD.ok S (fun vs H Q E h => ?_) (fun cdv A outer s H vs Q E hr h => ?_)
  · obtain ⟨v1, v2, G2, a1, a2, rfl, _⟩ := h
    exact hl
  · obtain ⟨v1, v2, G2, a1, a2, rfl, p1, p2, n2, r, hM, fin⟩ := h
    refine ⟨_, PSs.nox (hb cdv A outer s H E hr v2 G2 a1 a2), ok_start (Δ := [⟨G2, v2, E2 a2, some 0⟩]) rfl (.cons p1 (.cons rfl (.nil))) ?_ ?_ ?_, r, hM, fin⟩
    · intro c hc; rw [List.mem_singleton.mp hc]; exact p2
    · rw [cellsOf_cons]; show (_ ++ []).Nodup; rw [List.append_nil]; exact n2
    · intro i c h; match i, h with | 0, h => cases h; rfl | _ + 1, h => cases h
theorem x_FO_f {X : Cx} {F : Fm} {Γ : Gm} {Δ : Δs} {γ : Type} {x : Str} {p pos : Pos} {e1 e2 : Expr} {f : Addr} {fd : FuncData} {ps : List Str} {kk : Nat} {α1 α2 ρ β1 β2 : Type} {E1 : α1 → Pd} {E2 : α2 → Od} {Mf : α1 → α2 → Option (ρ × α2)} {Rp : ρ → Pd} {T : Option γ} {Δ1 : β1 → Δs} {x1 : β1 → α1} {k1 : β1 → Option γ} {Δ2 : β1 → β2 → Δs} {v2 : V} {prm : Option Nat} {s2 : β1 → β2 → α2} {k : (β1 × β2) × (ρ × α2) → Option γ}
    (G : FnOk X.prog X.w X.K X.mg X.base CX0 kk f fd ps (Sp_FO_f E1 E2 Mf Rp)) (hr : Room kk X.A) (hm : X.mg x = some (.ref f)) (hk : PySem.W.keepIn X.K (.ref f) = true) (hb : Binds X.K fd ps []) (j : Nat) (h1 : PE X e1 (tE true F Γ Δ T (k1) (fun b1 => E1 (x1 b1)) (Δ1))) (h2 : ∀ b1, PE X e2 (tE true F Γ (Δ1 b1) (k1 b1) (fun b2 => (Mf (x1 b1) (s2 b1 b2)).bind fun r => k ((b1, b2), r)) (fun b2 => pV v2) (Δ2 b1)))
    (hj : ∀ b1 b2, (Δ2 b1 b2)[j]? = some ⟨v2, E2 (s2 b1 b2), prm⟩) (hg : Gl X x := by rfl) (hdb : (x == ("__debug__" : Str)) = false := by decide) (st1 : starEach [e1, e2] X.env = (false, eval e1 X.env) :: starEach [e2] X.env := by rfl) (st2 : starEach [e2] X.env = (false, eval e2 X.env) :: starEach [] X.env := by rfl) (hpl : (backTo pos (starEach [e2] X.env)).any (·.1) = false := by rfl) :
    PE X (.Call (.Name x p) [e1, e2] [] pos) (tE true F Γ Δ T k (fun b => Rp b.2.1) fun b => (Δ2 b.1.1 b.1.2).set j ⟨v2, E2 b.2.2, prm⟩) :=
  (pe_call G hr hg hm hk hb .nil pass0 (pa_cons h1 (pa_cons (pe_ex fun b1 => h2 b1) pa_nil st2) st1) hdb st1 hpl).wk fun σ H Q ⟨ok, g, e, q⟩ => ⟨ok, g, e, fun b1 v1 H1 kb1 f1 ok1 hv1 => ⟨b1, ok1, g, kb1, fun b2 v2 H2 kb2 f2 ok2 hv2 => by
    obtain ⟨r, er, kr⟩ := bind_some kb2
    have hv2 : v2 = _ := hv2
    subst hv2
    obtain ⟨G0, hcell, hnd, ret_f, ret_o⟩ := ok2.lend1 (hj b1 b2)
    refine ⟨v1, _, G0, x1 b1, s2 b1 b2, rfl, ((E1 _).mono f2.fz hv1), hcell, hnd, r, er, fun v H' hk hv => ?_⟩
    obtain ⟨ok', st⟩ := ret_f _ _ hk
    exact q ((b1, b2), r) v H' kr ((f1.trans f2).trans st) ok' hv⟩⟩
def Sp_F_f {α1 ρ : Type} (E1 : α1 → Pd) (Mf : α1 → Option (ρ)) (Rp : ρ → Pd) : Sp := fun vs H Q _ => ∃ (v1 : V)  (a1 : α1), vs = [v1] ∧ (E1 a1).pr H v1 ∧ ∃ r, Mf a1 = some r ∧ RF ⟨H, []⟩ (fun _ => []) (Rp) r Q
theorem fn_F_f {P : Program} {w : World} {K : PySem.W.Frag} {mg : Str → Option Value} {base : Heap} {x qual : Str} {params : Arguments} {body : List Stmt} {scope : Scope} {dvs : List V} {kws : List (Str × V)} {f : Addr} {fd : FuncData} {N ps : List Str} {k : Nat} {α1 ρ : Type} {E1 : α1 → Pd} {Mf : α1 → Option (ρ)} {Rp : ρ → Pd}
    (FD : FunD K x qual params body scope dvs kws f fd) (S : FnScope N ps scope) (hl : 1 = ps.length)
    (hb : ∀ (cdv : Value) (A : Around) (outer : List Env) (s : Shared) (H : Hp) (E : XK) (hr : Room k (A.deeper (envOfC qual scope s.heap.objs.size f cdv)))  (a1 : α1), PSs (cxOf CX0 P w K mg base N qual scope f cdv A outer s H E).nox body
      (tS ⟨H, []⟩ (([E1 a1] : List Pd).map some ++ List.replicate (N.length - 1) none) [] (fF (RF ⟨H, []⟩ (fun _ => []) (Rp))) (Mf a1))) : FnOk P w K mg base CX0 (k + 1) f fd ps (Sp_F_f E1 Mf Rp) := by
  refine FD.ok S (fun vs H Q E h => ?_) (fun cdv A outer s H vs Q E hr h => ?_)
  · obtain ⟨v1, a1, rfl, _⟩ := h
    exact hl
  · obtain ⟨v1, a1, rfl, p1, r, hM, fin⟩ := h
    refine ⟨_, PSs.nox (hb cdv A outer s H E hr  a1), ok_start (Δ := []) rfl (.cons p1 (.nil)) ?_ ?_ ?_, r, hM, fin⟩
    · exact fun _ h => nomatch h
    · exact List.nodup_nil
    · exact fun _ _ h => nomatch h
theorem x_F_f {X : Cx} {W : Bool} {F : Fm} {Γ : Gm} {Δ : Δs} {γ : Type} {x : Str} {p pos : Pos} {e1 : Expr} {f : Addr} {fd : FuncData} {ps : List Str} {kk : Nat} {α1 ρ β1 : Type} {E1 : α1 → Pd} {Mf : α1 → Option (ρ)} {Rp : ρ → Pd} {T : Option γ} {Δ1 : β1 → Δs} {x1 : β1 → α1} {k : (β1) × (ρ) → Option γ}
    (G : FnOk X.prog X.w X.K X.mg X.base CX0 kk f fd ps (Sp_F_f E1 Mf Rp)) (hr : Room kk X.A) (hm : X.mg x = some (.ref f)) (hk : PySem.W.keepIn X.K (.ref f) = true) (hb : Binds X.K fd ps []) (h1 : PE X e1 (tE W F Γ Δ T (fun b1 => (Mf (x1 b1)).bind fun r => k (b1, r)) (fun b1 => E1 (x1 b1)) (Δ1)))
     (hg : Gl X x := by rfl) (hdb : (x == ("__debug__" : Str)) = false := by decide) (st1 : starEach [e1] X.env = (false, eval e1 X.env) :: starEach [] X.env := by rfl) (hpl : (backTo pos (starEach [] X.env)).any (·.1) = false := by rfl) :
    PE X (.Call (.Name x p) [e1] [] pos) (tE W F Γ Δ T k (fun b => Rp b.2) fun b => Δ1 b.1) :=
  (pe_call G hr hg hm hk hb .nil pass0 (pa_cons h1 pa_nil st1) hdb st1 hpl).wk fun σ H Q ⟨ok, g, e, q⟩ => ⟨ok, g, e, fun b1 v1 H1 kb1 f1 ok1 hv1 => by
    obtain ⟨r, er, kr⟩ := bind_some kb1
    refine ⟨v1, x1 b1, rfl, hv1, r, er, fun v H' hk hv => ?_⟩
    obtain ⟨ok', st⟩ := call_f0 (W := W) ok1 hk
    exact q (b1, r) v H' kr (f1.trans st) ok' hv⟩
def Sp_F_o {α1 ρ : Type} (E1 : α1 → Pd) (Mf : α1 → Option (ρ)) (Rp : ρ → Od) : Sp := fun vs H Q _ => ∃ (v1 : V)  (a1 : α1), vs = [v1] ∧ (E1 a1).pr H v1 ∧ ∃ r, Mf a1 = some r ∧ RO ⟨H, []⟩ (fun _ => []) (Rp) r Q
theorem fn_F_o {P : Program} {w : World} {K : PySem.W.Frag} {mg : Str → Option Value} {base : Heap} {x qual : Str} {params : Arguments} {body : List Stmt} {scope : Scope} {dvs : List V} {kws : List (Str × V)} {f : Addr} {fd : FuncData} {N ps : List Str} {k : Nat} {α1 ρ : Type} {E1 : α1 → Pd} {Mf : α1 → Option (ρ)} {Rp : ρ → Od}
    (FD : FunD K x qual params body scope dvs kws f fd) (S : FnScope N ps scope) (hl : 1 = ps.length)
    (hb : ∀ (cdv : Value) (A : Around) (outer : List Env) (s : Shared) (H : Hp) (E : XK) (hr : Room k (A.deeper (envOfC qual scope s.heap.objs.size f cdv)))  (a1 : α1), PSs (cxOf CX0 P w K mg base N qual scope f cdv A outer s H E).nox body
      (tS ⟨H, []⟩ (([E1 a1] : List Pd).map some ++ List.replicate (N.length - 1) none) [] (fF (RO ⟨H, []⟩ (fun _ => []) (Rp))) (Mf a1))) : FnOk P w K mg base CX0 (k + 1) f fd ps (Sp_F_o E1 Mf Rp) := by
  refine FD.ok S (fun vs H Q E h => ?_) (fun cdv A outer s H vs Q E hr h => ?_)
  · obtain ⟨v1, a1, rfl, _⟩ := h
    exact hl
  · obtain ⟨v1, a1, rfl, p1, r, hM, fin⟩ := h
    refine ⟨_, PSs.nox (hb cdv A outer s H E hr  a1), ok_start (Δ := []) rfl (.cons p1 (.nil)) ?_ ?_ ?_, r, hM, fin⟩
    · exact fun _ h => nomatch h
    · exact List.nodup_nil
    · exact fun _ _ h => nomatch h
theorem x_F_o {X : Cx} {W : Bool} {F : Fm} {Γ : Gm} {Δ : Δs} {γ : Type} {x : Str} {p pos : Pos} {e1 : Expr} {f : Addr} {fd : FuncData} {ps : List Str} {kk : Nat} {α1 ρ β1 : Type} {E1 : α1 → Pd} {Mf : α1 → Option (ρ)} {Rp : ρ → Od} {T : Option γ} {Δ1 : β1 → Δs} {x1 : β1 → α1} {k : (β1) × (ρ) → Option γ}
    (G : FnOk X.prog X.w X.K X.mg X.base CX0 kk f fd ps (Sp_F_o E1 Mf Rp)) (hr : Room kk X.A) (hm : X.mg x = some (.ref f)) (hk : PySem.W.keepIn X.K (.ref f) = true) (hb : Binds X.K fd ps []) (h1 : PE X e1 (tE W F Γ Δ T (fun b1 => (Mf (x1 b1)).bind fun r => k (b1, r)) (fun b1 => E1 (x1 b1)) (Δ1)))
     (hg : Gl X x := by rfl) (hdb : (x == ("__debug__" : Str)) = false := by decide) (st1 : starEach [e1] X.env = (false, eval e1 X.env) :: starEach [] X.env := by rfl) (hpl : (backTo pos (starEach [] X.env)).any (·.1) = false := by rfl) :
    PE X (.Call (.Name x p) [e1] [] pos) (tO W F Γ Δ T k (fun b => Rp b.2) fun b => Δ1 b.1) :=
  (pe_call G hr hg hm hk hb .nil pass0 (pa_cons h1 pa_nil st1) hdb st1 hpl).wk fun σ H Q ⟨ok, g, e, q⟩ => ⟨ok, g, e, fun b1 v1 H1 kb1 f1 ok1 hv1 => by
    obtain ⟨r, er, kr⟩ := bind_some kb1
    refine ⟨v1, x1 b1, rfl, hv1, r, er, fun v H' hk => ?_⟩
    obtain ⟨ok', st⟩ := call_o0 (W := W) ok1 hk
    exact q (b1, r) v H' kr (f1.trans st) (ok'.since f1)⟩
def Sp_OFF_f {α1 α2 α3 ρ : Type} (E1 : α1 → Od) (E2 : α2 → Pd) (E3 : α3 → Pd) (Mf : α1 → α2 → α3 → Option (ρ × α1)) (Rp : ρ → Pd) : Sp := fun vs H Q _ => ∃ (v1 v2 v3 : V) (G1 : List Addr) (a1 : α1) (a2 : α2) (a3 : α3), vs = [v1, v2, v3] ∧ (E1 a1).pr G1 H v1 ∧ G1.Nodup ∧ (E2 a2).pr H v2 ∧ (E3 a3).pr H v3 ∧ ∃ r, Mf a1 a2 a3 = some r ∧ RF ⟨H, [G1]⟩ (fun r => [⟨v1, E1 r.2, some 0⟩]) (fun r => Rp r.1) r Q
theorem fn_OFF_f {P : Program} {w : World} {K : PySem.W.Frag} {mg : Str → Option Value} {base : Heap} {x qual : Str} {params : Arguments} {body : List Stmt} {scope : Scope} {dvs : List V} {kws : List (Str × V)} {f : Addr} {fd : FuncData} {N ps : List Str} {k : Nat} {α1 α2 α3 ρ : Type} {E1 : α1 → Od} {E2 : α2 → Pd} {E3 : α3 → Pd} {Mf : α1 → α2 → α3 → Option (ρ × α1)} {Rp : ρ → Pd}
    (FD : FunD K x qual params body scope dvs kws f fd) (S : FnScope N ps scope) (hl : 3 = ps.length)
    (hb : ∀ (cdv : Value) (A : Around) (outer : List Env) (s : Shared) (H : Hp) (E : XK) (hr : Room k (A.deeper (envOfC qual scope s.heap.objs.size f cdv))) (v1 : V) (G1 : List Addr) (a1 : α1) (a2 : α2) (a3 : α3), PSs (cxOf CX0 P w K mg base N qual scope f cdv A outer s H E).nox body
      (tS ⟨H, [G1]⟩ (([pV v1, E2 a2, E3 a3] : List Pd).map some ++ List.replicate (N.length - 3) none) [⟨v1, E1 a1, some 0⟩] (fF (RF ⟨H, [G1]⟩ (fun r => [⟨v1, E1 r.2, some 0⟩]) (fun r => Rp r.1))) (Mf a1 a2 a3))) : FnOk P w K mg base CX0 (k + 1) f fd ps (Sp_OFF_f E1 E2 E3 Mf Rp) := by
  refine FD.ok S (fun vs H Q E h => ?_) (fun cdv A outer s H vs Q E hr h => ?_)
  · obtain ⟨v1, v2, v3, G1, a1, a2, a3, rfl, _⟩ := h
    exact hl
  · obtain ⟨v1, v2, v3, G1, a1, a2, a3, rfl, p1, n1, p2, p3, r, hM, fin⟩ := h
    refine ⟨_, PSs.nox (hb cdv A outer s H E hr v1 G1 a1 a2 a3), ok_start (Δ := [⟨G1, v1, E1 a1, some 0⟩]) rfl (.cons rfl (.cons p2 (.cons p3 (.nil)))) ?_ ?_ ?_, r, hM, fin⟩
    · intro c hc; rw [List.mem_singleton.mp hc]; exact p1
    · rw [cellsOf_cons]; show (_ ++ []).Nodup; rw [List.append_nil]; exact n1
    · intro i c h; match i, h with | 0, h => cases h; rfl | _ + 1, h => cases h
def Sp_OF_f {α1 α2 ρ : Type} (E1 : α1 → Od) (E2 : α2 → Pd) (Mf : α1 → α2 → Option (ρ × α1)) (Rp : ρ → Pd) : Sp := fun vs H Q _ => ∃ (v1 v2 : V) (G1 : List Addr) (a1 : α1) (a2 : α2), vs = [v1, v2] ∧ (E1 a1).pr G1 H v1 ∧ G1.Nodup ∧ (E2 a2).pr H v2 ∧ ∃ r, Mf a1 a2 = some r ∧ RF ⟨H, [G1]⟩ (fun r => [⟨v1, E1 r.2, some 0⟩]) (fun r => Rp r.1) r Q
theorem fn_OF_f {P : Program} {w : World} {K : PySem.W.Frag} {mg : Str → Option Value} {base : Heap} {x qual : Str} {params : Arguments} {body : List Stmt} {scope : Scope} {dvs : List V} {kws : List (Str × V)} {f : Addr} {fd : FuncData} {N ps : List Str} {k : Nat} {α1 α2 ρ : Type} {E1 : α1 → Od} {E2 : α2 → Pd} {Mf : α1 → α2 → Option (ρ × α1)} {Rp : ρ → Pd}
    (FD : FunD K x qual params body scope dvs kws f fd) (S : FnScope N ps scope) (hl : 2 = ps.length)
    (hb : ∀ (cdv : Value) (A : Around) (outer : List Env) (s : Shared) (H : Hp) (E : XK) (hr : Room k (A.deeper (envOfC qual scope s.heap.objs.size f cdv))) (v1 : V) (G1 : List Addr) (a1 : α1) (a2 : α2), PSs (cxOf CX0 P w K mg base N qual scope f cdv A outer s H E).nox body
      (tS ⟨H, [G1]⟩ (([pV v1, E2 a2] : List Pd).map some ++ List.replicate (N.length - 2) none) [⟨v1, E1 a1, some 0⟩] (fF (RF ⟨H, [G1]⟩ (fun r => [⟨v1, E1 r.2, some 0⟩]) (fun r => Rp r.1))) (Mf a1 a2))) : FnOk P w K mg base CX0 (k + 1) f fd ps (Sp_OF_f E1 E2 Mf Rp) := by
  refine FD.ok S (fun vs H Q E h => ?_) (fun cdv A outer s H vs Q E hr h => ?_)
  · obtain ⟨v1, v2, G1, a1, a2, rfl, _⟩ := h
    exact hl
  · obtain ⟨v1, v2, G1, a1, a2, rfl, p1, n1, p2, r, hM, fin⟩ := h
    refine ⟨_, PSs.nox (hb cdv A outer s H E hr v1 G1 a1 a2), ok_start (Δ := [⟨G1, v1, E1 a1, some 0⟩]) rfl (.cons rfl (.cons p2 (.nil))) ?_ ?_ ?_, r, hM, fin⟩
    · intro c hc; rw [List.mem_singleton.mp hc]; exact p1
    · rw [cellsOf_cons]; show (_ ++ []).Nodup; rw [List.append_nil]; exact n1
    · intro i c h; match i, h with | 0, h => cases h; rfl | _ + 1, h => cases h
theorem x_OF_f {X : Cx} {F : Fm} {Γ : Gm} {Δ : Δs} {γ : Type} {x : Str} {p pos : Pos} {e1 e2 : Expr} {f : Addr} {fd : FuncData} {ps : List Str} {kk : Nat} {α1 α2 ρ β1 β2 : Type} {E1 : α1 → Od} {E2 : α2 → Pd} {Mf : α1 → α2 → Option (ρ × α1)} {Rp : ρ → Pd} {T : Option γ} {Δ1 : β1 → Δs} {k1 : β1 → Option γ} {Δ2 : β1 → β2 → Δs} {x2 : β1 → β2 → α2} {v1 : V} {prm : Option Nat} {s1 : β1 → β2 → α1} {k : (β1 × β2) × (ρ × α1) → Option γ}
    (G : FnOk X.prog X.w X.K X.mg X.base CX0 kk f fd ps (Sp_OF_f E1 E2 Mf Rp)) (hr : Room kk X.A) (hm : X.mg x = some (.ref f)) (hk : PySem.W.keepIn X.K (.ref f) = true) (hb : Binds X.K fd ps []) (j : Nat) (h1 : PE X e1 (tE true F Γ Δ T (k1) (fun b1 => pV v1) (Δ1))) (h2 : ∀ b1, PE X e2 (tE true F Γ (Δ1 b1) (k1 b1) (fun b2 => (Mf (s1 b1 b2) (x2 b1 b2)).bind fun r => k ((b1, b2), r)) (fun b2 => E2 (x2 b1 b2)) (Δ2 b1)))
    (hj : ∀ b1 b2, (Δ2 b1 b2)[j]? = some ⟨v1, E1 (s1 b1 b2), prm⟩) (hg : Gl X x := by rfl) (hdb : (x == ("__debug__" : Str)) = false := by decide) (st1 : starEach [e1, e2] X.env = (false, eval e1 X.env) :: starEach [e2] X.env := by rfl) (st2 : starEach [e2] X.env = (false, eval e2 X.env) :: starEach [] X.env := by rfl) (hpl : (backTo pos (starEach [e2] X.env)).any (·.1) = false := by rfl) :
    PE X (.Call (.Name x p) [e1, e2] [] pos) (tE true F Γ Δ T k (fun b => Rp b.2.1) fun b => (Δ2 b.1.1 b.1.2).set j ⟨v1, E1 b.2.2, prm⟩) :=
  (pe_call G hr hg hm hk hb .nil pass0 (pa_cons h1 (pa_cons (pe_ex fun b1 => h2 b1) pa_nil st2) st1) hdb st1 hpl).wk fun σ H Q ⟨ok, g, e, q⟩ => ⟨ok, g, e, fun b1 v1 H1 kb1 f1 ok1 hv1 => ⟨b1, ok1, g, kb1, fun b2 v2 H2 kb2 f2 ok2 hv2 => by
    obtain ⟨r, er, kr⟩ := bind_some kb2
    have hv1 : v1 = _ := hv1
    subst hv1
    obtain ⟨G0, hcell, hnd, ret_f, ret_o⟩ := ok2.lend1 (hj b1 b2)
    refine ⟨_, v2, G0, s1 b1 b2, x2 b1 b2, rfl, hcell, hnd, hv2, r, er, fun v H' hk hv => ?_⟩
    obtain ⟨ok', st⟩ := ret_f _ _ hk
    exact q ((b1, b2), r) v H' kr ((f1.trans f2).trans st) ok' hv⟩⟩
def Sp_O_f {α1 ρ : Type} (E1 : α1 → Od) (Mf : α1 → Option (ρ × α1)) (Rp : ρ → Pd) : Sp := fun vs H Q _ => ∃ (v1 : V) (G1 : List Addr) (a1 : α1), vs = [v1] ∧ (E1 a1).pr G1 H v1 ∧ G1.Nodup ∧ ∃ r, Mf a1 = some r ∧ RF ⟨H, [G1]⟩ (fun r => [⟨v1, E1 r.2, some 0⟩]) (fun r => Rp r.1) r Q
theorem fn_O_f {P : Program} {w : World} {K : PySem.W.Frag} {mg : Str → Option Value} {base : Heap} {x qual : Str} {params : Arguments} {body : List Stmt} {scope : Scope} {dvs : List V} {kws : List (Str × V)} {f : Addr} {fd : FuncData} {N ps : List Str} {k : Nat} {α1 ρ : Type} {E1 : α1 → Od} {Mf : α1 → Option (ρ × α1)} {Rp : ρ → Pd}
    (FD : FunD K x qual params body scope dvs kws f fd) (S : FnScope N ps scope) (hl : 1 = ps.length)
    (hb : ∀ (cdv : Value) (A : Around) (outer : List Env) (s : Shared) (H : Hp) (E : XK) (hr : Room k (A.deeper (envOfC qual scope s.heap.objs.size f cdv))) (v1 : V) (G1 : List Addr) (a1 : α1), PSs (cxOf CX0 P w K mg base N qual scope f cdv A outer s H E).nox body
      (tS ⟨H, [G1]⟩ (([pV v1] : List Pd).map some ++ List.replicate (N.length - 1) none) [⟨v1, E1 a1, some 0⟩] (fF (RF ⟨H, [G1]⟩ (fun r => [⟨v1, E1 r.2, some 0⟩]) (fun r => Rp r.1))) (Mf a1))) : FnOk P w K mg base CX0 (k + 1) f fd ps (Sp_O_f E1 Mf Rp) := by
  refine FD.ok S (fun vs H Q E h => ?_) (fun cdv A outer s H vs Q E hr h => ?_)
  · obtain ⟨v1, G1, a1, rfl, _⟩ := h
    exact hl
  · obtain ⟨v1, G1, a1, rfl, p1, n1, r, hM, fin⟩ := h
    refine ⟨_, PSs.nox (hb cdv A outer s H E hr v1 G1 a1), ok_start (Δ := [⟨G1, v1, E1 a1, some 0⟩]) rfl (.cons rfl (.nil)) ?_ ?_ ?_, r, hM, fin⟩
    · intro c hc; rw [List.mem_singleton.mp hc]; exact p1
    · rw [cellsOf_cons]; show (_ ++ []).Nodup; rw [List.append_nil]; exact n1
    · intro i c h; match i, h with | 0, h => cases h; rfl | _ + 1, h => cases h
theorem x_O_f {X : Cx} {F : Fm} {Γ : Gm} {Δ : Δs} {γ : Type} {x : Str} {p pos : Pos} {e1 : Expr} {f : Addr} {fd : FuncData} {ps : List Str} {kk : Nat} {α1 ρ β1 : Type} {E1 : α1 → Od} {Mf : α1 → Option (ρ × α1)} {Rp : ρ → Pd} {T : Option γ} {Δ1 : β1 → Δs} {v1 : V} {prm : Option Nat} {s1 : β1 → α1} {k : (β1) × (ρ × α1) → Option γ}
    (G : FnOk X.prog X.w X.K X.mg X.base CX0 kk f fd ps (Sp_O_f E1 Mf Rp)) (hr : Room kk X.A) (hm : X.mg x = some (.ref f)) (hk : PySem.W.keepIn X.K (.ref f) = true) (hb : Binds X.K fd ps []) (j : Nat) (h1 : PE X e1 (tE true F Γ Δ T (fun b1 => (Mf (s1 b1)).bind fun r => k (b1, r)) (fun b1 => pV v1) (Δ1)))
    (hj : ∀ b1, (Δ1 b1)[j]? = some ⟨v1, E1 (s1 b1), prm⟩) (hg : Gl X x := by rfl) (hdb : (x == ("__debug__" : Str)) = false := by decide) (st1 : starEach [e1] X.env = (false, eval e1 X.env) :: starEach [] X.env := by rfl) (hpl : (backTo pos (starEach [] X.env)).any (·.1) = false := by rfl) :
    PE X (.Call (.Name x p) [e1] [] pos) (tE true F Γ Δ T k (fun b => Rp b.2.1) fun b => (Δ1 b.1).set j ⟨v1, E1 b.2.2, prm⟩) :=
  (pe_call G hr hg hm hk hb .nil pass0 (pa_cons h1 pa_nil st1) hdb st1 hpl).wk fun σ H Q ⟨ok, g, e, q⟩ => ⟨ok, g, e, fun b1 v1 H1 kb1 f1 ok1 hv1 => by
    obtain ⟨r, er, kr⟩ := bind_some kb1
    have hv1 : v1 = _ := hv1
    subst hv1
    obtain ⟨G0, hcell, hnd, ret_f, ret_o⟩ := ok1.lend1 (hj b1)
    refine ⟨_, G0, s1 b1, rfl, hcell, hnd, r, er, fun v H' hk hv => ?_⟩
    obtain ⟨ok', st⟩ := ret_f _ _ hk
    exact q (b1, r) v H' kr (f1.trans st) ok' hv⟩
def Sp_O_o {α1 ρ : Type} (E1 : α1 → Od) (Mf : α1 → Option (ρ × α1)) (Rp : ρ → Od) : Sp := fun vs H Q _ => ∃ (v1 : V) (G1 : List Addr) (a1 : α1), vs = [v1] ∧ (E1 a1).pr G1 H v1 ∧ G1.Nodup ∧ ∃ r, Mf a1 = some r ∧ RO ⟨H, [G1]⟩ (fun r => [⟨v1, E1 r.2, some 0⟩]) (fun r => Rp r.1) r Q
theorem fn_O_o {P : Program} {w : World} {K : PySem.W.Frag} {mg : Str → Option Value} {base : Heap} {x qual : Str} {params : Arguments} {body : List Stmt} {scope : Scope} {dvs : List V} {kws : List (Str × V)} {f : Addr} {fd : FuncData} {N ps : List Str} {k : Nat} {α1 ρ : Type} {E1 : α1 → Od} {Mf : α1 → Option (ρ × α1)} {Rp : ρ → Od}
    (FD : FunD K x qual params body scope dvs kws f fd) (S : FnScope N ps scope) (hl : 1 = ps.length)
    (hb : ∀ (cdv : Value) (A : Around) (outer : List Env) (s : Shared) (H : Hp) (E : XK) (hr : Room k (A.deeper (envOfC qual scope s.heap.objs.size f cdv))) (v1 : V) (G1 : List Addr) (a1 : α1), PSs (cxOf CX0 P w K mg base N qual scope f cdv A outer s H E).nox body
      (tS ⟨H, [G1]⟩ (([pV v1] : List Pd).map some ++ List.replicate (N.length - 1) none) [⟨v1, E1 a1, some 0⟩] (fF (RO ⟨H, [G1]⟩ (fun r => [⟨v1, E1 r.2, some 0⟩]) (fun r => Rp r.1))) (Mf a1))) : FnOk P w K mg base CX0 (k + 1) f fd ps (Sp_O_o E1 Mf Rp) := by
  refine FD.ok S (fun vs H Q E h => ?_) (fun cdv A outer s H vs Q E hr h => ?_)
  · obtain ⟨v1, G1, a1, rfl, _⟩ := h
    exact hl
  · obtain ⟨v1, G1, a1, rfl, p1, n1, r, hM, fin⟩ := h
    refine ⟨_, PSs.nox (hb cdv A outer s H E hr v1 G1 a1), ok_start (Δ := [⟨G1, v1, E1 a1, some 0⟩]) rfl (.cons rfl (.nil)) ?_ ?_ ?_, r, hM, fin⟩
    · intro c hc; rw [List.mem_singleton.mp hc]; exact p1
    · rw [cellsOf_cons]; show (_ ++ []).Nodup; rw [List.append_nil]; exact n1
    · intro i c h; match i, h with | 0, h => cases h; rfl | _ + 1, h => cases h
theorem x_O_o {X : Cx} {F : Fm} {Γ : Gm} {Δ : Δs} {γ : Type} {x : Str} {p pos : Pos} {e1 : Expr} {f : Addr} {fd : FuncData} {ps : List Str} {kk : Nat} {α1 ρ β1 : Type} {E1 : α1 → Od} {Mf : α1 → Option (ρ × α1)} {Rp : ρ → Od} {T : Option γ} {Δ1 : β1 → Δs} {v1 : V} {prm : Option Nat} {s1 : β1 → α1} {k : (β1) × (ρ × α1) → Option γ}
    (G : FnOk X.prog X.w X.K X.mg X.base CX0 kk f fd ps (Sp_O_o E1 Mf Rp)) (hr : Room kk X.A) (hm : X.mg x = some (.ref f)) (hk : PySem.W.keepIn X.K (.ref f) = true) (hb : Binds X.K fd ps []) (j : Nat) (h1 : PE X e1 (tE true F Γ Δ T (fun b1 => (Mf (s1 b1)).bind fun r => k (b1, r)) (fun b1 => pV v1) (Δ1)))
    (hj : ∀ b1, (Δ1 b1)[j]? = some ⟨v1, E1 (s1 b1), prm⟩) (hg : Gl X x := by rfl) (hdb : (x == ("__debug__" : Str)) = false := by decide) (st1 : starEach [e1] X.env = (false, eval e1 X.env) :: starEach [] X.env := by rfl) (hpl : (backTo pos (starEach [] X.env)).any (·.1) = false := by rfl) :
    PE X (.Call (.Name x p) [e1] [] pos) (tO true F Γ Δ T k (fun b => Rp b.2.1) fun b => (Δ1 b.1).set j ⟨v1, E1 b.2.2, prm⟩) :=
  (pe_call G hr hg hm hk hb .nil pass0 (pa_cons h1 pa_nil st1) hdb st1 hpl).wk fun σ H Q ⟨ok, g, e, q⟩ => ⟨ok, g, e, fun b1 v1 H1 kb1 f1 ok1 hv1 => by
    obtain ⟨r, er, kr⟩ := bind_some kb1
    have hv1 : v1 = _ := hv1
    subst hv1
    obtain ⟨G0, hcell, hnd, ret_f, ret_o⟩ := ok1.lend1 (hj b1)
    refine ⟨_, G0, s1 b1, rfl, hcell, hnd, r, er, fun v H' hk => ?_⟩
    obtain ⟨ok', st⟩ := ret_o _ _ _ _ hk
    exact q (b1, r) v H' kr (f1.trans st) (ok'.since f1)⟩
theorem x_TFF_f {X : Cx} {F : Fm} {Γ : Gm} {Δ : Δs} {γ : Type} {x : Str} {p pos : Pos} {e1 e2 e3 : Expr} {f : Addr} {fd : FuncData} {ps : List Str} {kk : Nat} {α1 α2 α3 ρ β1 β2 β3 : Type} {E1 : α1 → Od} {E2 : α2 → Pd} {E3 : α3 → Pd} {Mf : α1 → α2 → α3 → Option (ρ × α1)} {Rp : ρ → Pd} {T : Option γ} {Δ1 : β1 → Δs} {x1 : β1 → α1} {k1 : β1 → Option γ} {Δ2 : β1 → β2 → Δs} {x2 : β1 → β2 → α2} {k2 : β1 → β2 → Option γ} {Δ3 : β1 → β2 → β3 → Δs} {x3 : β1 → β2 → β3 → α3} {k : (β1 × β2 × β3) × (ρ × α1) → Option γ}
    (G : FnOk X.prog X.w X.K X.mg X.base CX0 kk f fd ps (Sp_OFF_f E1 E2 E3 Mf Rp)) (hr : Room kk X.A) (hm : X.mg x = some (.ref f)) (hk : PySem.W.keepIn X.K (.ref f) = true) (hb : Binds X.K fd ps []) (h1 : PE X e1 (tO true F Γ Δ T (k1) (fun b1 => E1 (x1 b1)) Δ1)) (h2 : ∀ b1 v, PE X e2 (tE true F Γ (⟨v, E1 (x1 b1), none⟩ :: Δ1 b1) (k1 b1) (k2 b1) (fun b2 => E2 (x2 b1 b2)) (fun b2 => ⟨v, E1 (x1 b1), none⟩ :: Δ2 b1 b2))) (h3 : ∀ b1 v b2, PE X e3 (tE true F Γ (⟨v, E1 (x1 b1), none⟩ :: Δ2 b1 b2) (k2 b1 b2) (fun b3 => (Mf (x1 b1) (x2 b1 b2) (x3 b1 b2 b3)).bind fun r => k ((b1, b2, b3), r)) (fun b3 => E3 (x3 b1 b2 b3)) (fun b3 => ⟨v, E1 (x1 b1), none⟩ :: Δ3 b1 b2 b3)))
    (hg : Gl X x := by rfl) (hdb : (x == ("__debug__" : Str)) = false := by decide) (st1 : starEach [e1, e2, e3] X.env = (false, eval e1 X.env) :: starEach [e2, e3] X.env := by rfl) (st2 : starEach [e2, e3] X.env = (false, eval e2 X.env) :: starEach [e3] X.env := by rfl) (st3 : starEach [e3] X.env = (false, eval e3 X.env) :: starEach [] X.env := by rfl) (hpl : (backTo pos (starEach [e2, e3] X.env)).any (·.1) = false := by rfl) :
    PE X (.Call (.Name x p) [e1, e2, e3] [] pos) (tE true F Γ Δ T k (fun b => Rp b.2.1) fun b => Δ3 b.1.1 b.1.2.1 b.1.2.2) :=
  (pe_call G hr hg hm hk hb .nil pass0 (pa_cons h1 (pa_cons (pe_ex fun b1 => pe_ex fun v => h2 b1 v) (pa_cons (pe_ex fun b1 => pe_ex fun v => pe_ex fun b2 => h3 b1 v b2) pa_nil st3) st2) st1) hdb st1 hpl).wk fun σ H Q ⟨ok, g, e, q⟩ => ⟨ok, g, e, fun b1 v1 H1 kb1 f1 okn => ⟨b1, v1, okn.ok, g, kb1, fun b2 v2 H2 kb2 f2 ok2 hv2 => ⟨b1, v1, b2, ok2, g, kb2, fun b3 v3 H3 kb3 f3 ok3 hv3 => by
    obtain ⟨r, er, kr⟩ := bind_some kb3
    obtain ⟨G1, hcell, hnd, ret_f, ret_o⟩ := ok3.lend1 (j := 0) rfl
    refine ⟨v1, v2, v3, G1, x1 b1, x2 b1 b2, x3 b1 b2 b3, rfl, hcell, hnd, ((E2 _).mono f3.fz hv2), hv3, r, er, fun v H' hk hv => ?_⟩
    obtain ⟨ok', st⟩ := ret_f _ _ hk
    exact q ((b1, b2, b3), r) v H' kr (((f1.trans f2).trans f3).trans st) (ok'.less (.cons _ (List.Sublist.refl _))) hv⟩⟩⟩
end L3
end
section
set_option maxHeartbeats 4000000
namespace L3
open PySem PySem.Spec PyProof.Rows L2
def WalkF {α : Type} (J : It) (Ex : α → Pd) (xs : List α) (H : Hp) : Prop := ∀ H', Fzs H H' → ∀ i, (i < xs.length → J.go i H') ∧ (xs.length ≤ i → J.stop i H') ∧ ∀ x v H'', xs[i]? = some x → J.yld i H' v H'' → Gr H' H'' ∧ (Ex x).pr H'' v
def tI {α β γ : Type} (W : Bool) (F : Fm) (Γ : Gm) (Δ : Δs) (T : Option γ) (k : β → Option γ) (Ex : α → Pd) (xs : β → List α) (Δ' : β → Δs) : TI := fun σ H R =>
  Ok F Γ Δ σ H ∧ ∃ g, T = some g ∧ ∀ b J H', k b = some g → St W H H' → Ok F Γ (Δ' b) σ H' → (xs b).length ≤ sizeLine → WalkF J Ex (xs b) H' → R J H'
def forS {α S : Type} : List α → S → (α → S → Option S) → Option S
  | [], s, _ => some s
  | x :: xs, s, f => (f x s).bind fun s' => forS xs s' f
def forL {α S ρ : Type} : List α → S → (α → S → Option (Bo S (Tm S ρ))) → Option (Bo S ρ)
  | [], s, _ => some (.nx s)
  | x :: xs, s, f => (f x s).bind fun o => match o with
    | .nx s' => forL xs s' f
    | .tm (.ct s') => forL xs s' f
    | .tm (.bk s') => some (.nx s')
    | .tm (.rt r) => some (.tm r)
def rngL (lo : Int) (n : Nat) : List Int := (List.range n).map fun (i : Nat) => lo + (i : Int)
def rg (n : Int) : Bool := decide (-(2 ^ 62) ≤ n) && decide (n ≤ 16777216)
def rg2 (m n : Int) : Bool := decide (-(2 ^ 62) ≤ m) && (decide (m < 2 ^ 62) && (decide (-(2 ^ 62) ≤ n) && (decide (n < 2 ^ 62) && decide (n - m ≤ 16777216))))
theorem rngL_len (lo : Int) (n : Nat) : (rngL lo n).length = n := by unfold rngL; rw [List.length_map, List.length_range]
section
variable {X : Cx} {W : Bool} {F : Fm} {Γ : Gm} {Δ : Δs} {γ : Type}
theorem _root_.L2.PI.wk {tg iter : Expr} {t t' : TI} (h : PI X tg iter t) (w : ∀ σ H R, t' σ H R → t σ H R) : PI X tg iter t' := ⟨fun pins s σ H R I q => h.run pins s σ H R I (w σ H R q)⟩
theorem i_list {tg l : Expr} {α β : Type} {T : Option γ} {k : β → Option γ} {Ex : α → Pd} {xs : β → List α} {Δ' : β → Δs} (he : PE X l (tE W F Γ Δ T k (fun b => pL Ex (xs b)) Δ')) : PI X tg l (tI W F Γ Δ T k Ex xs Δ') :=
  (pi_list he).wk fun σ H R ⟨ok, g, e, q⟩ => ⟨ok, g, e, fun b v H' kb f ok' ⟨a, o, vs, ev, h, z, p⟩ => ⟨a, ev, ⟨vs, .inl (.inr ⟨o, h⟩)⟩, q b _ H' kb f ok' z fun H2 f2 i => by
    have h2 : SqL X.K H2 a vs := .inl (.inr ⟨o, f2 _ _ trivial h⟩)
    refine ⟨fun hi => ?_, fun hi => ⟨vs, h2, by rw [← paired_len p]; exact hi⟩, fun x v H3 hx hy => ?_⟩
    · obtain ⟨u, hu, _⟩ := paired_at p (List.getElem?_eq_getElem hi)
      exact ⟨vs, u, h2, hu⟩
    · obtain ⟨e3, hy⟩ := hy
      obtain ⟨u, hu, pu⟩ := paired_at p hx
      have e4 := hy vs h2
      rw [hu] at e4
      cases e4
      subst e3
      exact ⟨Gr.refl _, (Ex x).mono f2 pu⟩⟩⟩
theorem rng_walk {lo : Int} {n : Nat} {H : Hp} : WalkF (Itr lo n) pInt (rngL lo n) H := fun H2 f2 i => by
  have hl : (rngL lo n).length = n := by unfold rngL; rw [List.length_map, List.length_range]
  rw [hl]
  refine ⟨fun h => h, fun h => h, fun x v H3 hx hy => ?_⟩
  obtain ⟨e1, e2⟩ := hy
  subst e1
  refine ⟨Gr.refl _, ?_⟩
  unfold rngL at hx
  rw [List.getElem?_map] at hx
  cases hr : (List.range n)[i]? with
  | none => rw [hr] at hx; cases hx
  | some m =>
    rw [hr] at hx
    have hi : i < n := by
      have := (List.getElem?_eq_some_iff.mp hr).1
      rwa [List.length_range] at this
    rw [List.getElem?_range hi] at hr
    cases hr
    have hx : lo + (i : Int) = x := by simpa using hx
    rw [← hx]
    exact e2
theorem i_rng1 {tg a : Expr} {p pos : Pos} {β : Type} {T : Option γ} {k : β → Option γ} {n : β → Int} {Δ' : β → Δs} (hm : X.mg "range" = none) (he : PE X a (tE W F Γ Δ T (fun b => grd (rg (n b) = true) (k b)) (fun b => pInt (n b)) Δ')) (hg : Gl X "range" := by rfl)
    (hs : starEach [a] X.env = [(false, eval a X.env)] := by rfl) : PI X tg (.Call (.Name "range" p) [a] [] pos) (tI W F Γ Δ T k pInt (fun b => rngL 0 (n b).toNat) Δ') :=
  (pi_range1 hg hm (pa_cons he pa_nil hs) hs).wk fun σ H R ⟨ok, g, e, q⟩ => ⟨ok, g, e, fun b v H' kb f ok' hv => by
    obtain ⟨c, kb⟩ := grd_some kb
    obtain ⟨c1, c2⟩ := Bool.and_eq_true_iff.mp c
    have hv : v = .int (n b) := hv
    subst hv
    have c2 := of_decide_eq_true c2
    exact ⟨n b, rfl, of_decide_eq_true c1, by omega, q b _ H' kb f ok' (by rw [rngL_len]; have : sizeLine = 16777216 := rfl; omega) rng_walk⟩⟩
def Tgt {α : Type} (g : TG) (Ex : α → Pd) (bd : Gm → α → Gm) : Prop := ∀ (F : Fm) (Γ : Gm) (Δ : Δs) (σ : SS) (H : Hp) (x : α) (v : V) (Q : SS → Hp → Prop), Ok F Γ Δ σ H → (Ex x).pr H v → (∀ σ', Ok F (bd Γ x) Δ σ' H → Q σ' H) → g v σ H Q
theorem tg_name {α : Type} {Ex : α → Pd} (i : Nat) : Tgt (gName i) Ex (fun Γ x => Γ.set i (some (Ex x))) := fun _ _ _ _ _ _ _ _ ok hv q => q _ (ok.set hv)
theorem tg_pair {α β : Type} {E1 : α → Pd} {E2 : β → Pd} {K : PySem.W.Frag} (i j : Nat) : Tgt (gTup K 2 (gCons (gName i) (gCons (gName j) gNil))) (pT2 E1 E2) (fun Γ x => (Γ.set i (some (E1 x.1))).set j (some (E2 x.2))) :=
  fun _ _ _ _ _ _ _ _ ok ⟨a, u, w, ev, h, p1, p2⟩ q => ⟨a, [u, w], ev, .inl (.inl h), rfl, u, [w], rfl, w, [], rfl, rfl, q _ ((ok.set p1).set p2)⟩
variable {N : Fn γ} {rest : List Stmt}
theorem drop_cons {α : Type} {xs : List α} {i : Nat} (h : i < xs.length) : ∃ x, xs[i]? = some x ∧ xs.drop i = x :: xs.drop (i + 1) := ⟨xs[i], List.getElem?_eq_getElem h, List.drop_eq_getElem_cons h⟩
theorem s_for {tg iter : Expr} {body : List Stmt} {pos : Pos} {g : TG} {α β S ρ : Type} {T : Option γ} {Ex : α → Pd} {bd : Gm → α → Gm} {xs : β → List α} {Δ' : β → Δs} {f : β → α → S → Option (Bo S (Tm S ρ))} {k2 : β → S → Option γ} {ι : ρ → γ} {R : Rt ρ} (hp : PassesOwn (model X.prog X.w) X.A X.env X.xe) (C : β → S → Cxt) (s0 : β → S)
    (hi : PI X tg iter (tI true F Γ Δ T (fun b => (forL (xs b) (s0 b) (f b)).bind (boK (k2 b) ι)) Ex xs Δ')) (hg : PG X tg g) (ht : Tgt g Ex bd) (h0 : ∀ b, SubG (C b (s0 b)).1 Γ) (h0d : ∀ b, (C b (s0 b)).2.Sublist (Δ' b))
    (hb : ∀ b x s, PSs X body (tS F (bd (C b s).1 x) (C b s).2 (fB F (C b) (fT F (C b) R)) (f b x s))) (hr : ∀ b s, PSs X rest (tS F (C b s).1 (C b s).2 N (k2 b s))) (hN : ∀ H r D, N.fin H (ι r) D → R r D.rt) (hc : X.calm = true := by rfl) (hfs : ∀ x, foldedSetIterable iter X.env x = pure x := by intro _; rfl) :
    PSs X (.For tg iter body [] pos :: rest) (tS F Γ Δ N T) :=
  (pss_cons (ps_for hp hc hi hg (pss_ex fun b => pss_ex fun x => pss_ex fun s => hb b x s) hfs) (pss_ex fun b => pss_ex fun s => hr b s)).wk fun D σ H ⟨ok, gg, e, fin⟩ => ⟨ok, gg, e, fun b J H1 kb f1 ok1 _ wk => by
    obtain ⟨o, eo, ko⟩ := bind_some kb
    refine ⟨fun i m σ' H' => i + m = (xs b).length ∧ Fzs H1 H' ∧ ∃ s, Ok F (C b s).1 (C b s).2 σ' H' ∧ forL ((xs b).drop i) s (f b) = some o, ⟨(xs b).length, Nat.zero_add _, Fzs.refl _, s0 b, ok1.wk (h0 b) (h0d b), by rw [List.drop_zero]; exact eo⟩, fun i m σ2 H2 ⟨em, fz2, s, ok2, e2⟩ => ?_⟩
    by_cases hi : i < (xs b).length
    · obtain ⟨x, hx, ed⟩ := drop_cons hi
      rw [ed] at e2
      have e2 : (f b x s).bind _ = some o := e2
      obtain ⟨ob, eb, e2⟩ := bind_some e2
      refine .inr ⟨((wk H2 fz2) i).1 hi, fun σ3 H3 => (i + 1) + (m - 1) = (xs b).length ∧ Fzs H1 H3 ∧ ∃ s, Ok F (C b s).1 (C b s).2 σ3 H3 ∧ forL ((xs b).drop (i + 1)) s (f b) = some o, fun σ3 H3 h3 => ⟨m - 1, by omega, h3⟩, fun v H3 hy => ?_⟩
      obtain ⟨gr3, pv⟩ := ((wk H2 fz2) i).2.2 x v H3 hx hy
      refine ht F _ _ σ2 H3 x v _ (ok2.gr gr3) pv fun σ4 ok4 => ⟨b, x, s, ok4, ob, eb, ?_⟩
      cases ob with
      | nx s' => exact fun σ5 H5 f5 ok5 => ⟨by omega, (fz2.trans gr3.fzs).trans f5, s', ok5, e2⟩
      | tm t =>
        cases t with
        | ct s' => exact fun σ5 H5 f5 ok5 => ⟨by omega, (fz2.trans gr3.fzs).trans f5, s', ok5, e2⟩
        | bk s' =>
          have e2 : some (Bo.nx s') = some o := e2
          cases e2
          exact fun σ5 H5 f5 ok5 => ⟨b, s', ok5, gg, ko, N.mono fin (f1.fz.trans ((fz2.trans gr3.fzs).trans f5))⟩
        | rt r =>
          have e2 : some (Bo.tm r) = some o := e2
          cases e2
          have ko : some (ι r) = some gg := ko
          cases ko
          exact hN H r D fin
    · refine .inl ⟨((wk H2 fz2) i).2.1 (by omega), ?_⟩
      rw [List.drop_eq_nil_of_le (by omega)] at e2
      have e2 : some (Bo.nx s) = some o := e2
      cases e2
      exact ⟨b, s, ok2, gg, ko, N.mono fin (f1.fz.trans fz2)⟩⟩
theorem s_forS {tg iter : Expr} {body : List Stmt} {pos : Pos} {g : TG} {α β S : Type} {T : Option γ} {Ex : α → Pd} {bd : Gm → α → Gm} {xs : β → List α} {Δ' : β → Δs} {f : β → α → S → Option S} {k2 : β → S → Option γ} (hp : PassesOwn (model X.prog X.w) X.A X.env X.xe) (C : β → S → Cxt) (s0 : β → S)
    (hi : PI X tg iter (tI true F Γ Δ T (fun b => (forS (xs b) (s0 b) (f b)).bind (k2 b)) Ex xs Δ')) (hg : PG X tg g) (ht : Tgt g Ex bd) (h0 : ∀ b, SubG (C b (s0 b)).1 Γ) (h0d : ∀ b, (C b (s0 b)).2.Sublist (Δ' b))
    (hb : ∀ b x s, PSs X body (tS F (bd (C b s).1 x) (C b s).2 (fN F (C b)) (f b x s))) (hr : ∀ b s, PSs X rest (tS F (C b s).1 (C b s).2 N (k2 b s))) (hc : X.calm = true := by rfl) (hfs : ∀ x, foldedSetIterable iter X.env x = pure x := by intro _; rfl) :
    PSs X (.For tg iter body [] pos :: rest) (tS F Γ Δ N T) :=
  (pss_cons (ps_for hp hc hi hg (pss_ex fun b => pss_ex fun x => pss_ex fun s => hb b x s) hfs) (pss_ex fun b => pss_ex fun s => hr b s)).wk fun D σ H ⟨ok, gg, e, fin⟩ => ⟨ok, gg, e, fun b J H1 kb f1 ok1 _ wk => by
    obtain ⟨o, eo, ko⟩ := bind_some kb
    refine ⟨fun i m σ' H' => i + m = (xs b).length ∧ Fzs H1 H' ∧ ∃ s, Ok F (C b s).1 (C b s).2 σ' H' ∧ forS ((xs b).drop i) s (f b) = some o, ⟨(xs b).length, Nat.zero_add _, Fzs.refl _, s0 b, ok1.wk (h0 b) (h0d b), by rw [List.drop_zero]; exact eo⟩, fun i m σ2 H2 ⟨em, fz2, s, ok2, e2⟩ => ?_⟩
    by_cases hi : i < (xs b).length
    · obtain ⟨x, hx, ed⟩ := drop_cons hi
      rw [ed] at e2
      have e2 : (f b x s).bind _ = some o := e2
      obtain ⟨s', eb, e2⟩ := bind_some e2
      refine .inr ⟨((wk H2 fz2) i).1 hi, fun σ3 H3 => (i + 1) + (m - 1) = (xs b).length ∧ Fzs H1 H3 ∧ ∃ s, Ok F (C b s).1 (C b s).2 σ3 H3 ∧ forS ((xs b).drop (i + 1)) s (f b) = some o, fun σ3 H3 h3 => ⟨m - 1, by omega, h3⟩, fun v H3 hy => ?_⟩
      obtain ⟨gr3, pv⟩ := ((wk H2 fz2) i).2.2 x v H3 hx hy
      exact ht F _ _ σ2 H3 x v _ (ok2.gr gr3) pv fun σ4 ok4 => ⟨b, x, s, ok4, s', eb, fun σ5 H5 f5 ok5 => ⟨by omega, (fz2.trans gr3.fzs).trans f5, s', ok5, e2⟩⟩
    · refine .inl ⟨((wk H2 fz2) i).2.1 (by omega), ?_⟩
      rw [List.drop_eq_nil_of_le (by omega)] at e2
      have e2 : s = o := Option.some.inj e2
      rw [e2] at ok2
      exact ⟨b, o, ok2, gg, ko, N.mono fin (f1.fz.trans fz2)⟩⟩
end
end L3
end
section
set_option maxHeartbeats 4000000
namespace L3
open PySem PySem.Spec PyProof.Rows L2
def compM {α δ S : Type} : List α → S → (α → S → Option (Option δ × S)) → Option (List δ × S)
  | [], s, _ => some ([], s)
  | x :: xs, s, f => (f x s).bind fun o => (compM xs o.2 f).bind fun r => some ((match o.1 with | none => r.1 | some y => y :: r.1), r.2)
theorem compM_len {α δ S : Type} {f : α → S → Option (Option δ × S)} : ∀ {xs : List α} {s : S} {r : List δ × S}, compM xs s f = some r → r.1.length ≤ xs.length
  | [], s, r, h => by cases h; exact Nat.le_refl _
  | x :: xs, s, r, h => by
    obtain ⟨o, _, h⟩ := bind_some (show (f x s).bind _ = some r from h)
    obtain ⟨q, hq, h⟩ := bind_some h
    have ih := compM_len hq
    cases h
    cases o.1 with
    | none => exact Nat.le_succ_of_le ih
    | some y => exact Nat.succ_le_succ ih
def wipeG (Γ : Gm) : List Nat → Gm
  | [] => Γ
  | v :: vs => (wipeG Γ vs).set v none
theorem wipeG_length (Γ : Gm) : ∀ vs : List Nat, (wipeG Γ vs).length = Γ.length
  | [] => rfl
  | v :: vs => by unfold wipeG; rw [List.length_set, wipeG_length Γ vs]
theorem wipe_get {Γ : Gm} {σ : SS} {p : Pd} {i : Nat} : ∀ {vs : List Nat}, (wipeG Γ vs)[i]? = some (some p) → Γ[i]? = some (some p) ∧ (wipe σ vs)[i]? = σ[i]?
  | [], h => ⟨h, rfl⟩
  | v :: vs, h => by
    unfold wipeG at h
    by_cases e : i = v
    · subst e
      by_cases l : i < (wipeG Γ vs).length
      · rw [List.getElem?_set_self l] at h; cases h
      · rw [List.getElem?_eq_none (by rw [List.length_set]; omega)] at h; cases h
    · rw [List.getElem?_set_ne (fun z => e z.symm)] at h
      obtain ⟨h1, h2⟩ := wipe_get h
      refine ⟨h1, ?_⟩
      unfold wipe
      rw [List.getElem?_set_ne (fun z => e z.symm)]
      exact h2
theorem Ok.wipe {F : Fm} {Γ : Gm} {Δ Δ' : Δs} {σ : SS} {H H' : Hp} (k : Ok F Γ Δ σ H) (f : Fzs H H') (h : Hk F Δ' H') (vs : List Nat) : Ok F (wipeG Γ vs) Δ' (L2.wipe σ vs) H' :=
  ⟨h, by rw [wipe_length, wipeG_length]; exact k.len, fun i p e => by
    obtain ⟨e1, e2⟩ := wipe_get (σ := σ) e
    obtain ⟨v, hs, hv⟩ := k.gam i p e1
    exact ⟨v, e2.trans hs, p.mono f hv⟩⟩
theorem perm_lift {A B : Δs} (p : A.Perm B) : ∀ {Δ0 : List Cel}, Δ0.map Cel.fg = A → ∃ Δ1 : List Cel, Δ0.Perm Δ1 ∧ Δ1.map Cel.fg = B := by
  induction p with
  | nil => intro Δ0 e; exact ⟨Δ0, List.Perm.refl _, e⟩
  | cons x _ ih =>
    intro Δ0 e
    cases Δ0 with
    | nil => cases e
    | cons y r =>
      rw [List.map_cons] at e
      injection e with e1 e2
      obtain ⟨Δ1, q, e3⟩ := ih e2
      exact ⟨y :: Δ1, q.cons y, by rw [List.map_cons, e3, e1]⟩
  | swap x y l =>
    intro Δ0 e
    cases Δ0 with
    | nil => cases e
    | cons a r =>
      cases r with
      | nil => cases e
      | cons b r =>
        have e' : a.fg = y ∧ b.fg = x ∧ r.map Cel.fg = l := by simpa using e
        exact ⟨b :: a :: r, List.Perm.swap _ _ _, by rw [List.map_cons, List.map_cons, e'.1, e'.2.1, e'.2.2]⟩
  | trans _ _ ih1 ih2 =>
    intro Δ0 e
    obtain ⟨Δ1, q1, e1⟩ := ih1 e
    obtain ⟨Δ2, q2, e2⟩ := ih2 e1
    exact ⟨Δ2, q1.trans q2, e2⟩
theorem Hk.perm {F : Fm} {Δ Δ' : Δs} {H : Hp} (k : Hk F Δ H) (p : Δ.Perm Δ') : Hk F Δ' H := by
  obtain ⟨Δ0, e, k⟩ := k
  obtain ⟨Δ1, q, e1⟩ := perm_lift p e
  exact ⟨Δ1, e1, k.perm q⟩
theorem Hk.one {W : Bool} {F : Fm} {Δ : Δs} {H H0 : Hp} {D : Addr} {α : Type} {E : α → Pd} {xs : List α} {Γ : Gm} {σ : SS} (k : Hk F (⟨.ref D, oL E xs, none⟩ :: Δ) H) (n : Nm Γ σ H) (h0 : H0 D = none) : OkN W F Γ H0 (.ref D) (oL E xs) Δ σ H := by
  obtain ⟨Δ0, e, k⟩ := k
  cases Δ0 with
  | nil => cases e
  | cons y r =>
    obtain ⟨yG, yv, yd, yp⟩ := y
    have e' : (⟨yv, yd, yp⟩ : Cell) = ⟨.ref D, oL E xs, none⟩ ∧ r.map Cel.fg = Δ := by simpa [Cel.fg] using e
    obtain ⟨e1, e2⟩ := e'
    cases e1
    obtain ⟨p, vs, eG, ev, _⟩ := k.del _ List.mem_cons_self
    cases ev
    have eG : yG = [D] := eG
    subst eG
    exact ⟨r, [D], e2, k, fun _ a ha => by rw [List.mem_singleton.mp ha]; exact h0, n⟩
def TgtW {α : Type} (g : TG) (Ex : α → Pd) (bd : Gm → α → Gm) (vs : List Nat) : Prop := ∀ (F : Fm) (Γ : Gm) (Δ : Δs) (σ : SS) (H : Hp) (x : α) (v : V) (Q : SS → Hp → Prop), Ok F (wipeG Γ vs) Δ (L2.wipe σ vs) H → (Ex x).pr H v → (∀ σ', L2.wipe σ' vs = L2.wipe σ vs → Ok F (bd (wipeG Γ vs) x) Δ σ' H → Q σ' H) → g v (L2.wipe σ vs) H Q
theorem tw_name {α : Type} {Ex : α → Pd} (i : Nat) : TgtW (gName i) Ex (fun Γ x => Γ.set i (some (Ex x))) [i] := fun _ _ _ σ _ _ _ _ ok hv q => q _ (by
  show ((σ.set i none).set i _).set i none = σ.set i none
  rw [List.set_set, List.set_set]) (ok.set hv)
section
variable {X : Cx} {W : Bool} {F : Fm} {Γ : Gm} {Δ : Δs} {γ : Type}
abbrev Blk (X : Cx) (scope : Scope) (P : Cx → Prop) : Prop := ∀ (s : Shared) (H : Hp) (C : Addr) (cl : List (Str × Addr)) (fp : List Addr), P (X.blk s H scope (compEnvC scope cl C X.env) fp)
section
variable {α β β2 β3 δ S : Type} {g : TG} {own : List (Str × Nat)} {T : Option γ} {k0 : β → Option γ} {k : β × (List δ × S) → Option γ} {out : β × (List δ × S) → List δ} {Ex : α → Pd} {Ee : δ → Pd} {bd : Gm → α → Gm} {xs : β → List α} {Δ1 : β → Δs} {C : β → S → Δs} {s0 : β → S} {f : β → α → S → Option (Option δ × S)}
    {c : β → α → S → β2 → Bool} {s2 : β → α → S → β2 → S} {T2 : β → α → S → β2 → Option (Option δ × S)} {y : β → α → S → β2 → β3 → δ} {s3 : β → α → S → β2 → β3 → S}
abbrev lcT (W : Bool) (F : Fm) (Γ : Gm) (own : List (Str × Nat)) (bd : Gm → α → Gm) (C : β → S → Δs) (f : β → α → S → Option (Option δ × S)) (c : β → α → S → β2 → Bool) (s2 : β → α → S → β2 → S) (T2 : β → α → S → β2 → Option (Option δ × S)) : TT := fun σ H Q => ∃ d b x s, tTs W F (bd (wipeG Γ (own.map (·.2))) x) (C b s ++ [d]) (f b x s) (fun b2 => if c b x s b2 = true then T2 b x s b2 else some (none, s2 b x s b2)) (c b x s) (fun b2 => C b (s2 b x s b2) ++ [d]) σ H Q
abbrev lcE (W : Bool) (F : Fm) (Γ : Gm) (own : List (Str × Nat)) (bd : Gm → α → Gm) (C : β → S → Δs) (s2 : β → α → S → β2 → S) (T2 : β → α → S → β2 → Option (Option δ × S)) (Ee : δ → Pd) (y : β → α → S → β2 → β3 → δ) (s3 : β → α → S → β2 → β3 → S) : TE := fun σ H Q => ∃ d b x s b2, tE W F (bd (wipeG Γ (own.map (·.2))) x) (C b (s2 b x s b2) ++ [d]) (T2 b x s b2) (fun b3 => some (some (y b x s b2 b3), s3 b x s b2 b3)) (fun b3 => Ee (y b x s b2 b3)) (fun b3 => C b (s3 b x s b2 b3) ++ [d]) σ H Q
theorem lc_imp (hrun : ∀ b g, k0 b = some g → ∃ r, compM (xs b) (s0 b) (f b) = some r ∧ k (b, r) = some g) (hout : ∀ b r, compM (xs b) (s0 b) (f b) = some r → out (b, r) = r.1) (ht : TgtW g Ex bd (own.map (·.2))) (h0 : ∀ b, Δ1 b = C b (s0 b)) :
    ∀ σ H Q, tO W F Γ Δ T k (fun b => oL Ee (out b)) (fun b => C b.1 b.2.2) σ H Q → tLc (tI W F Γ Δ T k0 Ex xs Δ1) g (lcT W F Γ own bd C f c s2 T2) (lcE W F Γ own bd C s2 T2 Ee y s3) (own.map (·.2)) σ H Q :=
  fun σ H Q ⟨ok0, gg, e, q⟩ => ⟨ok0, gg, e, fun b J H1 kb f1 ok1 zl wk D nD => by
    obtain ⟨⟨ys, sf⟩, er, kr⟩ := hrun b gg kb
    have grD : Gr H1 (upd H1 D (.lst [])) := Gr.new nD
    have hk0 : Hk F (C b (s0 b) ++ [⟨.ref D, oL Ee [], none⟩]) (upd H1 D (.lst [])) := by
      rw [← h0 b]
      exact (ok1.newL (W := true) (E := Ee) (xs := []) nD (Nat.zero_le _) .nil).1.ok.hk.perm (List.perm_append_singleton _ _).symm
    refine ⟨fun i m H' => i + m = (xs b).length ∧ St W H1 H' ∧ ∃ s acc ys', Hk F (C b s ++ [⟨.ref D, oL Ee acc, none⟩]) H' ∧ compM ((xs b).drop i) s (f b) = some (ys', sf) ∧ acc ++ ys' = ys, ⟨(xs b).length, Nat.zero_add _, grD.st, s0 b, [], ys, hk0, by rw [List.drop_zero]; exact er, rfl⟩, fun i m H2 ⟨em, st2, s, acc, ys', hk2, ec, ea⟩ => ?_⟩
    by_cases hi : i < (xs b).length
    · obtain ⟨x, hx, ed⟩ := drop_cons hi
      rw [ed] at ec
      obtain ⟨o, eo, ec⟩ := bind_some (show (f b x s).bind _ = some (ys', sf) from ec)
      obtain ⟨r, erc, ec⟩ := bind_some ec
      refine .inr ⟨((wk H2 st2.fz) i).1 hi, fun H' => (i + 1) + (m - 1) = (xs b).length ∧ St W H1 H' ∧ ∃ s acc ys', Hk F (C b s ++ [⟨.ref D, oL Ee acc, none⟩]) H' ∧ compM ((xs b).drop (i + 1)) s (f b) = some (ys', sf) ∧ acc ++ ys' = ys, fun H' h => ⟨m - 1, by omega, h⟩, fun v H3 hy => ?_⟩
      obtain ⟨gr3, pv⟩ := ((wk H2 st2.fz) i).2.2 x v H3 hx hy
      have st3 : St W H1 H3 := st2.trans gr3.st
      refine ht F Γ _ σ H3 x v _ (ok1.wipe st3.fz (hk2.gr gr3) _) pv fun σ4 ew ok4 => ⟨ew, ⟨.ref D, oL Ee acc, none⟩, b, x, s, ok4, o, eo, fun b2 H5 kb2 st5 ok5 => ?_⟩
      try dsimp only at kb2
      cases hcb : c b x s b2 with
      | false =>
        rw [if_neg (by rw [hcb]; exact Bool.false_ne_true)] at kb2
        cases kb2
        cases ec
        exact iteF ⟨by omega, st3.trans st5, s2 b x s b2, acc, r.1, ok5.hk, erc, ea⟩
      | true =>
        rw [if_pos hcb] at kb2
        refine iteT ⟨⟨.ref D, oL Ee acc, none⟩, b, x, s, b2, ok5, o, kb2, fun b3 w H6 kb3 st6 ok6 hw => ?_⟩
        cases kb3
        cases ec
        have hlast : (C b (s3 b x s b2 b3) ++ [⟨.ref D, oL Ee acc, none⟩])[(C b (s3 b x s b2 b3)).length]? = some ⟨.ref D, oL Ee acc, none⟩ := by rw [List.getElem?_append_right (Nat.le_refl _), Nat.sub_self]; rfl
        obtain ⟨G', ⟨D', vs, eG, eD, hD, zD, pD⟩, _, turn⟩ := ok6.hk.cell hlast
        cases eD
        subst eG
        have hlen : acc.length < sizeLine := by
          have l1 := compM_len erc
          have l2 : (acc ++ y b x s b2 b3 :: r.1).length = ys.length := congrArg List.length ea
          have l3 := compM_len er
          rw [List.length_append, List.length_cons] at l2
          have : ys.length ≤ (xs b).length := l3
          omega
        have fzm : Fzs H6 (upd H6 D (.lst (vs ++ [w]))) := Fzs.mut hD fun z => z
        obtain ⟨hk7, st7⟩ := turn (upd H6 D (.lst (vs ++ [w]))) (oL Ee (acc ++ [y b x s b2 b3])) (fun a o na e => by
          rw [upd_ne fun z => na (by rw [z]; exact List.mem_singleton.mpr rfl)]; exact e)
          ⟨D, vs ++ [w], rfl, rfl, upd_same, by rw [List.length_append, List.length_singleton]; omega, paired_app (paired_mono (fun x _ => (Ee x).mono fzm) pD) (.cons ((Ee _).mono fzm hw) .nil)⟩
        refine ⟨vs, hD, by rw [← paired_len pD]; exact hlen, by omega, ⟨((st3.fz.trans st5.fz).trans st6.fz).trans st7.fz, fun hw a o e => ?_, fun a o e => ?_⟩, s3 b x s b2 b3, acc ++ [y b x s b2 b3], r.1, ?_, erc, by rw [List.append_assoc]; exact ea⟩
        · rw [upd_ne (ne_of_none e nD)]
          exact ((st3.trans st5).trans st6).kp hw a o e
        · obtain ⟨u, eu⟩ := ((st3.trans st5).trans st6).dom a o e
          exact upd_dom _ _ a u eu
        · rw [List.set_append_right _ _ (Nat.le_refl _), Nat.sub_self] at hk7
          exact hk7
    · refine .inl ⟨((wk H2 st2.fz) i).2.1 (by omega), ?_⟩
      rw [List.drop_eq_nil_of_le (by omega)] at ec
      have ec : some (([] : List δ), s) = some (ys', sf) := ec
      cases ec
      rw [List.append_nil] at ea
      subst ea
      have hkf := hk2.perm (List.perm_append_singleton _ _)
      rw [show acc = out (b, (acc, _)) from (hout b _ er).symm] at hkf
      exact q (b, (acc, _)) _ H2 kr (f1.trans st2) (hkf.one (ok1.nm.mono st2.fz) (f1.back nD))⟩
theorem x_lc0 {elt tg iter : Expr} {ifs : List Expr} {scope : Scope} {pos : Pos} (nd : X.N.Nodup)
    (hi : PI X tg iter (tI W F Γ Δ T k0 Ex xs Δ1)) (hrun : ∀ b g, k0 b = some g → ∃ r, compM (xs b) (s0 b) (f b) = some r ∧ k (b, r) = some g) (hout : ∀ b r, compM (xs b) (s0 b) (f b) = some r → out (b, r) = r.1) (ok : BlkOk X.N X.env.scope scope own) (hg : Blk X scope fun Y => PG Y tg g) (ht : TgtW g Ex bd (own.map (·.2))) (h0 : ∀ b, Δ1 b = C b (s0 b))
    (hc : ∀ d, Blk X scope fun Y => ∀ b x s, PTs Y ifs (tTs W F (bd (wipeG Γ (own.map (·.2))) x) (C b s ++ [d]) (f b x s) (fun b2 => if c b x s b2 = true then T2 b x s b2 else some (none, s2 b x s b2)) (c b x s) fun b2 => C b (s2 b x s b2) ++ [d]))
    (he : ∀ d, Blk X scope fun Y => ∀ b x s b2, PE Y elt (tE W F (bd (wipeG Γ (own.map (·.2))) x) (C b (s2 b x s b2) ++ [d]) (T2 b x s b2) (fun b3 => some (some (y b x s b2 b3), s3 b x s b2 b3)) (fun b3 => Ee (y b x s b2 b3)) fun b3 => C b (s3 b x s b2 b3) ++ [d]))
    (hcm : X.calm = true := by rfl) (hs : ∀ x, foldedSetIterable iter X.env x = pure x := by intro _; rfl) :
    PE X (.ListComp elt [⟨tg, iter, ifs, 0⟩] scope pos) (tO W F Γ Δ T k (fun b => oL Ee (out b)) fun b => C b.1 b.2.2) :=
  (pe_lc hcm nd hi ok hg (tt := lcT W F Γ own bd C f c s2 T2) (fun s H Cc cl fp => ⟨fun pins s' σ H Q I ⟨d, b, x, s'', h⟩ => (hc d s _ Cc cl fp b x s'').run pins s' σ H Q I h⟩) (te := lcE W F Γ own bd C s2 T2 Ee y s3) (fun s H Cc cl fp => ⟨fun pins s' σ H Q I ⟨d, b, x, s'', b2, h⟩ => (he d s _ Cc cl fp b x s'' b2).run pins s' σ H Q I h⟩) hs).wk (lc_imp hrun hout ht h0)
theorem a_lc0 {elt tg iter : Expr} {ifs : List Expr} {scope : Scope} {pos py spos : Pos} {i : Nat} {yv : Str} (nd : X.N.Nodup)
    (hi : PI X tg iter (tI W F Γ Δ T k0 Ex xs Δ1)) (hrun : ∀ b g, k0 b = some g → ∃ r, compM (xs b) (s0 b) (f b) = some r ∧ k (b, r) = some g) (hout : ∀ b r, compM (xs b) (s0 b) (f b) = some r → out (b, r) = r.1) (ok : BlkOk X.N X.env.scope scope own) (hg : Blk X scope fun Y => PG Y tg g) (ht : TgtW g Ex bd (own.map (·.2))) (h0 : ∀ b, Δ1 b = C b (s0 b))
    (hc : ∀ d, Blk X scope fun Y => ∀ b x s, PTs Y ifs (tTs W F (bd (wipeG Γ (own.map (·.2))) x) (C b s ++ [d]) (f b x s) (fun b2 => if c b x s b2 = true then T2 b x s b2 else some (none, s2 b x s b2)) (c b x s) fun b2 => C b (s2 b x s b2) ++ [d]))
    (he : ∀ d, Blk X scope fun Y => ∀ b x s b2, PE Y elt (tE W F (bd (wipeG Γ (own.map (·.2))) x) (C b (s2 b x s b2) ++ [d]) (T2 b x s b2) (fun b3 => some (some (y b x s b2 b3), s3 b x s b2 b3)) (fun b3 => Ee (y b x s b2 b3)) fun b3 => C b (s3 b x s b2 b3) ++ [d]))
    (hsw : swapsWith (.ListComp elt [⟨tg, iter, ifs, 0⟩] scope pos) (some (.Name yv py)) spos.line X.env = pure true) (hy : X.N[i]? = some yv := by rfl) (hyl : X.env.scope.names.lookup yv = some .local := by rfl) (hcm : X.calm = true := by rfl) (hs : ∀ x, foldedSetIterable iter X.env x = pure x := by intro _; rfl) :
    PS X (.Assign [.Name yv py] (.ListComp elt [⟨tg, iter, ifs, 0⟩] scope pos) spos) (tAsg (tO W F Γ Δ T k (fun b => oL Ee (out b)) fun b => C b.1 b.2.2) (gName i)) :=
  (ps_setLc hcm nd hy hyl hsw hi ok hg (tt := lcT W F Γ own bd C f c s2 T2) (fun s H Cc cl fp => ⟨fun pins s' σ H Q I ⟨d, b, x, s'', h⟩ => (hc d s _ Cc cl fp b x s'').run pins s' σ H Q I h⟩) (te := lcE W F Γ own bd C s2 T2 Ee y s3) (fun s H Cc cl fp => ⟨fun pins s' σ H Q I ⟨d, b, x, s'', b2, h⟩ => (he d s _ Cc cl fp b x s'' b2).run pins s' σ H Q I h⟩) hs).wk fun D σ H h => lc_imp hrun hout ht h0 σ H _ h
end
theorem x_lc {elt tg iter : Expr} {ifs : List Expr} {scope : Scope} {own : List (Str × Nat)} {pos : Pos} {g : TG} {α β β2 β3 δ S : Type} {T : Option γ} {k : β × (List δ × S) → Option γ} {Ex : α → Pd} {Ee : δ → Pd} {bd : Gm → α → Gm} {xs : β → List α} {Δ1 : β → Δs} {C : β → S → Δs} {s0 : β → S} {f : β → α → S → Option (Option δ × S)}
    {c : β → α → S → β2 → Bool} {s2 : β → α → S → β2 → S} {T2 : β → α → S → β2 → Option (Option δ × S)} {y : β → α → S → β2 → β3 → δ} {s3 : β → α → S → β2 → β3 → S} (nd : X.N.Nodup)
    (hi : PI X tg iter (tI W F Γ Δ T (fun b => (compM (xs b) (s0 b) (f b)).bind fun r => k (b, r)) Ex xs Δ1)) (ok : BlkOk X.N X.env.scope scope own) (hg : Blk X scope fun Y => PG Y tg g) (ht : TgtW g Ex bd (own.map (·.2))) (h0 : ∀ b, Δ1 b = C b (s0 b))
    (hc : ∀ d, Blk X scope fun Y => ∀ b x s, PTs Y ifs (tTs W F (bd (wipeG Γ (own.map (·.2))) x) (C b s ++ [d]) (f b x s) (fun b2 => if c b x s b2 = true then T2 b x s b2 else some (none, s2 b x s b2)) (c b x s) fun b2 => C b (s2 b x s b2) ++ [d]))
    (he : ∀ d, Blk X scope fun Y => ∀ b x s b2, PE Y elt (tE W F (bd (wipeG Γ (own.map (·.2))) x) (C b (s2 b x s b2) ++ [d]) (T2 b x s b2) (fun b3 => some (some (y b x s b2 b3), s3 b x s b2 b3)) (fun b3 => Ee (y b x s b2 b3)) fun b3 => C b (s3 b x s b2 b3) ++ [d]))
    (hcm : X.calm = true := by rfl) (hs : ∀ x, foldedSetIterable iter X.env x = pure x := by intro _; rfl) :
    PE X (.ListComp elt [⟨tg, iter, ifs, 0⟩] scope pos) (tO W F Γ Δ T k (fun b => oL Ee b.2.1) fun b => C b.1 b.2.2) :=
  x_lc0 (out := fun b => b.2.1) nd hi (fun _ _ h => bind_some h) (fun _ _ _ => rfl) ok hg ht h0 hc he hcm hs
theorem a_lc {elt tg iter : Expr} {ifs : List Expr} {scope : Scope} {own : List (Str × Nat)} {pos py spos : Pos} {i : Nat} {yv : Str} {g : TG} {α β β2 β3 δ S : Type} {T : Option γ} {k : β × (List δ × S) → Option γ} {Ex : α → Pd} {Ee : δ → Pd} {bd : Gm → α → Gm} {xs : β → List α} {Δ1 : β → Δs} {C : β → S → Δs} {s0 : β → S} {f : β → α → S → Option (Option δ × S)}
    {c : β → α → S → β2 → Bool} {s2 : β → α → S → β2 → S} {T2 : β → α → S → β2 → Option (Option δ × S)} {y : β → α → S → β2 → β3 → δ} {s3 : β → α → S → β2 → β3 → S} (nd : X.N.Nodup)
    (hi : PI X tg iter (tI W F Γ Δ T (fun b => (compM (xs b) (s0 b) (f b)).bind fun r => k (b, r)) Ex xs Δ1)) (ok : BlkOk X.N X.env.scope scope own) (hg : Blk X scope fun Y => PG Y tg g) (ht : TgtW g Ex bd (own.map (·.2))) (h0 : ∀ b, Δ1 b = C b (s0 b))
    (hc : ∀ d, Blk X scope fun Y => ∀ b x s, PTs Y ifs (tTs W F (bd (wipeG Γ (own.map (·.2))) x) (C b s ++ [d]) (f b x s) (fun b2 => if c b x s b2 = true then T2 b x s b2 else some (none, s2 b x s b2)) (c b x s) fun b2 => C b (s2 b x s b2) ++ [d]))
    (he : ∀ d, Blk X scope fun Y => ∀ b x s b2, PE Y elt (tE W F (bd (wipeG Γ (own.map (·.2))) x) (C b (s2 b x s b2) ++ [d]) (T2 b x s b2) (fun b3 => some (some (y b x s b2 b3), s3 b x s b2 b3)) (fun b3 => Ee (y b x s b2 b3)) fun b3 => C b (s3 b x s b2 b3) ++ [d]))
    (hsw : swapsWith (.ListComp elt [⟨tg, iter, ifs, 0⟩] scope pos) (some (.Name yv py)) spos.line X.env = pure true) (hy : X.N[i]? = some yv := by rfl) (hyl : X.env.scope.names.lookup yv = some .local := by rfl) (hcm : X.calm = true := by rfl) (hs : ∀ x, foldedSetIterable iter X.env x = pure x := by intro _; rfl) :
    PS X (.Assign [.Name yv py] (.ListComp elt [⟨tg, iter, ifs, 0⟩] scope pos) spos) (tAsg (tO W F Γ Δ T k (fun b => oL Ee b.2.1) fun b => C b.1 b.2.2) (gName i)) :=
  a_lc0 (out := fun b => b.2.1) nd hi (fun _ _ h => bind_some h) (fun _ _ _ => rfl) ok hg ht h0 hc he hsw hy hyl hcm hs
theorem pts_T {Y : Cx} {Γ : Gm} {Δ : Δs} {T : Option γ} : PTs Y [] (tTs W F Γ Δ T (fun _ : Unit => T) (fun _ => true) fun _ => Δ) := ⟨fun pins s σ H Q I ⟨ok, g, e, q⟩ => pts_nil.run pins s σ H Q I (q () H e (St.refl H) ok)⟩
end
end L3
end
section
set_option maxHeartbeats 4000000
namespace L3
open PySem PySem.Spec PyProof.Rows L2
section
variable {X : Cx} {W : Bool} {F : Fm} {Γ : Gm} {Δ : Δs} {γ : Type}
structure Flat {α : Type} [DecidableEq α] (E : α → Pd) where
  mp : α → V
  eq : ∀ {x H v}, (E x).pr H v → v = mp x
  rel : ∀ {x H}, (E x).pr H (mp x)
  fl : ∀ x, flatV (mp x) = true
  one : ∀ x y, eqV (mp x) (mp y) = decide (x = y)
def flStr : Flat pStr := ⟨V.str, fun h => h, rfl, fun _ => rfl, fun x y => by show (x == y) = _; by_cases h : x = y <;> simp [h]⟩
theorem flat_vals {α : Type} {E : α → Pd} [DecidableEq α] (fl : Flat E) {H : Hp} : ∀ {xs : List α} {vs : List V}, Paired (fun x u => (E x).pr H u) xs vs → vs = xs.map fl.mp
  | _, _, .nil => rfl
  | _, _, .cons r t => by rw [List.map_cons, ← flat_vals fl t, fl.eq r]
theorem flat_in {α : Type} {E : α → Pd} [DecidableEq α] (fl : Flat E) (i : α) : ∀ xs : List α, inV (fl.mp i) (xs.map fl.mp) = decide (i ∈ xs)
  | [] => by simp [inV]
  | x :: xs => by
    have ih := flat_in fl i xs
    unfold inV at ih ⊢
    rw [List.map_cons, List.any_cons, ih, fl.one]
    by_cases h : x = i
    · simp [h]
    · have h2 : ¬ i = x := fun z => h z.symm
      simp [h, h2]
theorem flat_all {α : Type} {E : α → Pd} [DecidableEq α] (fl : Flat E) : ∀ xs : List α, (xs.map fl.mp).all flatV = true
  | [] => rfl
  | x :: xs => by rw [List.map_cons, List.all_cons, fl.fl, flat_all fl xs]; rfl
section
variable {a b : Expr} {pos : Pos} {β1 β2 α : Type} [DecidableEq α] {T : Option γ} {k1 : β1 → Option γ} {k : β1 × β2 → Option γ} {Δ1 : β1 → Δs} {Δ2 : β1 → β2 → Δs} {Ee : α → Pd} {i : β1 → α} {E2 : β1 → β2 → Pd} {xs : β1 → β2 → List α}
theorem v_inL (fl : Flat Ee) {neg : Bool} (rd : ∀ b1 b2, RdL (Δ2 b1 b2) (E2 b1 b2) Ee (xs b1 b2)) : ∀ b1 b2 σ v w H Q, Ok F Γ (Δ2 b1 b2) σ H → (Ee (i b1)).pr H v → (E2 b1 b2).pr H w → (∀ u, (pBl (if neg then !decide (i b1 ∈ xs b1 b2) else decide (i b1 ∈ xs b1 b2))).pr H u → Q u H) → rIn X.K neg v w H Q :=
  fun b1 b2 σ v w H Q ok hv hw q => by
    obtain ⟨p, vs, ev, sq, _, pr⟩ := (rd b1 b2 F H w ok.hk hw).sq (K := X.K)
    have e1 := flat_vals fl pr
    subst e1
    have e2 := fl.eq hv
    subst e2
    refine ⟨p, _, ev, .inl sq, fl.fl _, flat_all fl _, ?_⟩
    rw [flat_in fl]
    exact q _ rfl
theorem t_ninL (fl : Flat Ee) (ha : PE X a (tE W F Γ Δ T k1 (fun b => Ee (i b)) Δ1)) (hb : ∀ b1, PE X b (tE W F Γ (Δ1 b1) (k1 b1) (fun b2 => k (b1, b2)) (E2 b1) (Δ2 b1))) (rd : ∀ b1 b2, RdL (Δ2 b1 b2) (E2 b1 b2) Ee (xs b1 b2)) (hm : behindInMarks .NotIn b = false := by rfl) :
    PT X (.Compare a [.NotIn] [b] pos) (tTs W F Γ Δ T k (fun b => !decide (i b.1 ∈ xs b.1 b.2)) fun b => Δ2 b.1 b.2) := t2t (bt_cmp op_notIn_seq hm) ha hb (v_inL (neg := true) fl rd)
theorem v_eqF (fl : Flat Ee) (sc : ∀ x y, scal (fl.mp x) (fl.mp y) = true) (inj : ∀ x y, fl.mp x = fl.mp y → x = y) {j : β1 → β2 → α} : ∀ b1 b2 σ v w H Q, Ok F Γ (Δ2 b1 b2) σ H → (Ee (i b1)).pr H v → (Ee (j b1 b2)).pr H w → (∀ u, (pBl (decide (i b1 = j b1 b2))).pr H u → Q u H) → rEq v w H Q :=
  fun b1 b2 σ v w H Q ok hv hw q => by
    rw [fl.eq hv, fl.eq hw]
    refine ⟨sc _ _, q _ ?_⟩
    show V.bl _ = V.bl _
    congr 1
    by_cases z : i b1 = j b1 b2
    · rw [z]; simp
    · rw [decide_eq_false z, decide_eq_false fun y => z (inj _ _ y)]
theorem v_neF (fl : Flat Ee) (sc : ∀ x y, scal (fl.mp x) (fl.mp y) = true) (inj : ∀ x y, fl.mp x = fl.mp y → x = y) {j : β1 → β2 → α} : ∀ b1 b2 σ v w H Q, Ok F Γ (Δ2 b1 b2) σ H → (Ee (i b1)).pr H v → (Ee (j b1 b2)).pr H w → (∀ u, (pBl (!decide (i b1 = j b1 b2))).pr H u → Q u H) → rNe v w H Q :=
  fun b1 b2 σ v w H Q ok hv hw q => by
    rw [fl.eq hv, fl.eq hw]
    refine ⟨sc _ _, q _ ?_⟩
    show V.bl _ = V.bl _
    congr 1
    by_cases z : i b1 = j b1 b2
    · rw [z]; simp
    · rw [decide_eq_false z, decide_eq_false fun y => z (inj _ _ y)]
end
section
variable {a b : Expr} {pos : Pos} {β1 β2 : Type} {T : Option γ} {k1 : β1 → Option γ} {k : β1 × β2 → Option γ} {Δ1 : β1 → Δs} {Δ2 : β1 → β2 → Δs} {i : β1 → Str} {j : β1 → β2 → Str} {c : β1 → Bool} {d : β1 → β2 → Bool}
theorem t_eqS (ha : PE X a (tE W F Γ Δ T k1 (fun b => pStr (i b)) Δ1)) (hb : ∀ b1, PE X b (tE W F Γ (Δ1 b1) (k1 b1) (fun b2 => k (b1, b2)) (fun b => pStr (j b1 b)) (Δ2 b1))) : PT X (.Compare a [.Eq] [b] pos) (tTs W F Γ Δ T k (fun b => decide (i b.1 = j b.1 b.2)) fun b => Δ2 b.1 b.2) := t2t (bt_cmp op_eq (nomark _)) ha hb (v_eqF flStr (fun _ _ => rfl) fun _ _ h => V.str.inj h)
theorem t_neS (ha : PE X a (tE W F Γ Δ T k1 (fun b => pStr (i b)) Δ1)) (hb : ∀ b1, PE X b (tE W F Γ (Δ1 b1) (k1 b1) (fun b2 => k (b1, b2)) (fun b => pStr (j b1 b)) (Δ2 b1))) : PT X (.Compare a [.NotEq] [b] pos) (tTs W F Γ Δ T k (fun b => !decide (i b.1 = j b.1 b.2)) fun b => Δ2 b.1 b.2) := t2t (bt_cmp op_ne (nomark _)) ha hb (v_neF flStr (fun _ _ => rfl) fun _ _ h => V.str.inj h)
end
def dtInt : Dt pInt := ⟨.int, fun h => by rw [h]; exact .int _, 0, fun _ => rfl, fun _ => Nat.le_refl 0, fun x y => by show (x == y) = _; by_cases h : x = y <;> simp [h]⟩
section
variable {a b : Expr} {pos : Pos} {β1 β2 α : Type} [DecidableEq α] {T : Option γ} {k1 : β1 → Option γ} {k : β1 × β2 → Option γ} {Δ1 : β1 → Δs} {Δ2 : β1 → β2 → Δs} {Ee : α → Pd} {E1 : β1 → Pd} {E2 : β1 → β2 → Pd} {xs ys : β1 → β2 → List α}
end
end
end L3
end
section
set_option maxHeartbeats 4000000
namespace L3
open PySem PySem.Spec PyProof.Rows L2
def cutL {α : Type} (xs : List α) (lo hi : Option Int) : List α := (xs.drop (HT.sIx xs.length 0 lo)).take (HT.sIx xs.length xs.length hi - HT.sIx xs.length 0 lo)
theorem cutL_len {α : Type} (xs : List α) (lo hi : Option Int) : (cutL xs lo hi).length ≤ xs.length := by
  unfold cutL
  rw [List.length_take, List.length_drop]
  omega
theorem paired_cut {α : Type} {P : α → V → Prop} {xs : List α} {vs : List V} (h : Paired P xs vs) (lo hi : Option Int) : Paired P (cutL xs lo hi) (cutV vs lo hi) := by
  unfold cutL cutV
  rw [← paired_len h]
  exact paired_take _ (paired_drop _ h)
section
variable {X : Cx} {W : Bool} {F : Fm} {Γ : Gm} {Δ : Δs} {γ : Type}
def tPo {β γ : Type} (W : Bool) (F : Fm) (Γ : Gm) (Δ : Δs) (T : Option γ) (k : β → Option γ) (o : β → Option Int) (Δ' : β → Δs) : TO := fun σ H Q =>
  Ok F Γ Δ σ H ∧ ∃ g, T = some g ∧ ∀ b H', k b = some g → St W H H' → Ok F Γ (Δ' b) σ H' → Q (o b) H'
theorem _root_.L2.PO.wk {e : Option Expr} {t t' : TO} (h : PO X e t) (w : ∀ σ H Q, t' σ H Q → t σ H Q) : PO X e t' := ⟨fun pins s σ H Q I q => h.run pins s σ H Q I (w σ H Q q)⟩
theorem po_ex {β : Type} {e : Option Expr} {t : β → TO} (h : ∀ b, PO X e (t b)) : PO X e (fun σ H Q => ∃ b, t b σ H Q) := ⟨fun pins s σ H Q I ⟨b, q⟩ => (h b).run pins s σ H Q I q⟩
theorem p_none {k : Unit → Option γ} : PO X none (tPo W F Γ Δ (k ()) k (fun _ => none) fun _ => Δ) := po_none.wk fun σ H Q ⟨ok, g, e, q⟩ => q () H e (St.refl H) ok
theorem p_some {e : Expr} {β : Type} {T : Option γ} {k : β → Option γ} {i : β → Int} {Δ' : β → Δs} (he : PE X e (tE W F Γ Δ T k (fun b => pInt (i b)) Δ')) : PO X (some e) (tPo W F Γ Δ T k (fun b => some (i b)) Δ') :=
  (po_some he).wk fun σ H Q ⟨ok, g, e, q⟩ => ⟨ok, g, e, fun b v H' kb f ok' hv => ⟨i b, hv, q b H' kb f ok'⟩⟩
section
variable {a : Expr} {lo hi : Option Expr} {p2 pos : Pos} {β1 β2 β3 α : Type} {T : Option γ} {k1 : β1 → Option γ} {k2 : β1 → β2 → Option γ} {k : β1 × β2 × β3 → Option γ} {E1 : β1 → Pd} {Ee : α → Pd} {xs : β1 → β2 → β3 → List α} {o1 : β1 → β2 → Option Int} {o2 : β1 → β2 → β3 → Option Int} {Δ1 : β1 → Δs} {Δ2 : β1 → β2 → Δs} {Δ3 : β1 → β2 → β3 → Δs}
theorem x_slL (ha : PE X a (tE W F Γ Δ T k1 E1 Δ1)) (hl : ∀ b1, PO X lo (tPo W F Γ (Δ1 b1) (k1 b1) (k2 b1) (o1 b1) (Δ2 b1))) (hh : ∀ b1 b2, PO X hi (tPo W F Γ (Δ2 b1 b2) (k2 b1 b2) (fun b3 => k (b1, b2, b3)) (o2 b1 b2) (Δ3 b1 b2))) (rd : ∀ b1 b2 b3, RdL (Δ3 b1 b2 b3) (E1 b1) Ee (xs b1 b2 b3)) :
    PE X (.Subscript a (.Slice lo hi none p2) pos) (tO W F Γ Δ T k (fun b => oL Ee (cutL (xs b.1 b.2.1 b.2.2) (o1 b.1 b.2.1) (o2 b.1 b.2.1 b.2.2))) fun b => Δ3 b.1 b.2.1 b.2.2) :=
  (pe_slice sl_list ha (po_ex hl) (po_ex fun b1 => po_ex fun b2 => hh b1 b2)).wk fun σ H Q ⟨ok, g, e, q⟩ => ⟨ok, g, e, fun b1 v H1 kb1 f1 ok1 hv => ⟨b1, ok1, g, kb1, fun b2 H2 kb2 f2 ok2 => ⟨b1, b2, ok2, g, kb2, fun b3 H3 kb3 f3 ok3 => by
    obtain ⟨p, vs, ev, sq, z, pr⟩ := (rd b1 b2 b3 F H3 v ok3.hk ((E1 b1).mono (f2.fz.trans f3.fz) hv)).sq (K := X.K)
    refine ⟨p, vs, ev, sq, fun n nn => ?_⟩
    have st := (f1.trans f2).trans f3
    obtain ⟨o, g'⟩ := ok3.newL nn (Nat.le_trans (cutL_len _ _ _) z) (paired_cut pr (o1 b1 b2) (o2 b1 b2 b3))
    exact q (b1, b2, b3) _ _ kb3 (st.trans g'.st) (o.since st)⟩⟩⟩
end
section
variable {a : Expr} {β α : Type} {T : Option γ} {k : β → Option γ} {E1 : β → Pd} {Ee : α → Pd} {xs : β → List α} {Δ1 : β → Δs}
variable {p pos : Pos}
end
section
variable {a : Expr} {i : Int} {n : Nat} {p pos : Pos} {β α1 α2 α3 : Type} {T : Option γ} {k : β → Option γ} {A : α1 → Pd} {B : α2 → Pd} {C : α3 → Pd} {Δ1 : β → Δs}
theorem x_fst {x : β → α1 × α2} (ha : PE X a (tE W F Γ Δ T k (fun b => pT2 A B (x b)) Δ1)) : PE X (.Subscript a (.Constant (.int 0) n p) pos) (tE W F Γ Δ T k (fun b => A (x b).1) Δ1) :=
  (pe_ix ix_tup ha pe_int (fun _ _ => rfl)).wk fun σ H Q ⟨ok, g, e, q⟩ => ⟨ok, g, e, fun b v H1 kb f ok1 ⟨t, u, w, ev, h, p1, p2⟩ => ⟨t, [u, w], 0, u, ev, rfl, .inl (.inl h), rfl, q b u H1 kb f ok1 p1⟩⟩
theorem x_snd {x : β → α1 × α2} (ha : PE X a (tE W F Γ Δ T k (fun b => pT2 A B (x b)) Δ1)) : PE X (.Subscript a (.Constant (.int 1) n p) pos) (tE W F Γ Δ T k (fun b => B (x b).2) Δ1) :=
  (pe_ix ix_tup ha pe_int (fun _ _ => rfl)).wk fun σ H Q ⟨ok, g, e, q⟩ => ⟨ok, g, e, fun b v H1 kb f ok1 ⟨t, u, w, ev, h, p1, p2⟩ => ⟨t, [u, w], 1, w, ev, rfl, .inl (.inl h), rfl, q b w H1 kb f ok1 p2⟩⟩
end
def rCatR (K : PySem.W.Frag) : R2 := fun x y H Q => ∃ l b xs zs, x = .ref l ∧ y = .ref b ∧ Rd H l (.lst xs) ∧ Rd H b (.lst zs) ∧ xs.length + zs.length ≤ sizeLine ∧ ∀ p, H p = none → Q (.ref p) (upd H p (.lst (xs ++ zs)))
theorem op_catR : OpR X (binaryOp .Add) (rCatR X.K) := fun pins s σ H x y v u Q I rx ry ⟨l, b, xs, zs, ex, ey, hl, hb, hz, q⟩ => by
  subst ex ey
  have e1 : v = Value.ref l := rx
  have e2 : u = Value.ref b := ry
  subst e1 e2
  obtain ⟨z1, i1, n1, r1, g1⟩ := (show ObjOk X.prog X.w H s.heap l (.lst xs) from hl.ok I.hok)
  obtain ⟨z2, i2, n2, r2, g2⟩ := (show ObjOk X.prog X.w H s.heap b (.lst zs) from hb.ok I.hok)
  have l1 := r1.length
  have l2 := r2.length
  refine PySem.P.add_list g1 g2 ?_ (by simp only [List.size_toArray]; omega)
  rw [show i1.toArray ++ i2.toArray = (i1 ++ i2).toArray by simp]
  exact ⟨.ref _, _, I.lnew (t' := s.toks) (r1.append r2) (by simp only [List.length_append]; omega), rfl, q _ I.fresh⟩
section
variable {a b : Expr} {pos : Pos} {β1 β2 α : Type} {T : Option γ} {k1 : β1 → Option γ} {k : β1 × β2 → Option γ} {Δ1 : β1 → Δs} {Δ2 : β1 → β2 → Δs} {Ee : α → Pd} {E1 : β1 → Pd} {E2 : β1 → β2 → Pd} {xs ys : β1 → β2 → List α}
theorem x_cat (ha : PE X a (tE W F Γ Δ T k1 E1 Δ1)) (hb : ∀ b1, PE X b (tE W F Γ (Δ1 b1) (k1 b1) (fun b2 => grd ((xs b1 b2).length + (ys b1 b2).length ≤ sizeLine) (k (b1, b2))) (E2 b1) (Δ2 b1))) (r1 : ∀ b1 b2, RdL (Δ2 b1 b2) (E1 b1) Ee (xs b1 b2)) (r2 : ∀ b1 b2, RdL (Δ2 b1 b2) (E2 b1 b2) Ee (ys b1 b2)) :
    PE X (.BinOp a .Add b pos) (tO W F Γ Δ T k (fun b => oL Ee (xs b.1 b.2 ++ ys b.1 b.2)) fun b => Δ2 b.1 b.2) :=
  x2_core (b_op op_catR) ha hb fun σ H Q ⟨ok, g, e, q⟩ => ⟨ok, g, e, fun b1 b2 v w H2 kb f ok2 hv hw => by
    obtain ⟨c, kb⟩ := grd_some kb
    obtain ⟨l, vs, ev, rv, zv, pv⟩ := r1 b1 b2 F H2 v ok2.hk hv
    obtain ⟨m, ws, ew, rw', zw, pw⟩ := r2 b1 b2 F H2 w ok2.hk hw
    refine ⟨l, m, vs, ws, ev, ew, rv, rw', by rw [← paired_len pv, ← paired_len pw]; exact c, fun n nn => ?_⟩
    obtain ⟨o, g'⟩ := ok2.newL nn (by rw [List.length_append]; exact c) (paired_app pv pw)
    exact q (b1, b2) _ _ kb (f.trans g'.st) (o.since f)⟩
end
section
variable {o e : Expr} {apos cpos : Pos} {β1 β2 α : Type} {T : Option γ} {k1 : β1 → Option γ} {k : β1 × β2 → Option γ} {Δ1 : β1 → Δs} {Δ2 : β1 → β2 → Δs} {Ee : α → Pd} {xs : β1 → β2 → List α} {y : β1 → β2 → α} {v : V} {prm : Option Nat}
theorem x_app (j : Nat) (ho : PE X o (tE true F Γ Δ T k1 (fun _ => pV v) Δ1)) (he : ∀ b1, PE X e (tE true F Γ (Δ1 b1) (k1 b1) (fun b2 => grd ((xs b1 b2).length < sizeLine) (k (b1, b2))) (fun b2 => Ee (y b1 b2)) (Δ2 b1))) {xs0 : β1 → List α} {prm0 : Option Nat} (hj0 : ∀ b1, (Δ1 b1)[j]? = some ⟨v, oL Ee (xs0 b1), prm0⟩)
    (hj : ∀ b1 b2, (Δ2 b1 b2)[j]? = some ⟨v, oL Ee (xs b1 b2), prm⟩)
    (hbase : attributeBase o "append" X.env (eval o X.env) = eval o X.env := by rfl) (hline : (apos.endLine == cpos.line) = true := by rfl) (hs : starEach [e] X.env = (false, eval e X.env) :: starEach [] X.env := by rfl)
    (hfew : ((backTo cpos (starEach [e] X.env)).all (fun x => !x.1) && (backToKw cpos (keywordEach [] X.env)).all (fun x => x.1.isSome) && decide ([e].length + ([] : List Keyword).length + (if ([] : List Keyword).isEmpty then 0 else 1) < 30)) = true := by rfl) :
    PE X (.Call (.Attribute o "append" apos) [e] [] cpos) (tE true F Γ Δ T k (fun _ => pNon) fun b => (Δ2 b.1 b.2).set j ⟨v, oL Ee (xs b.1 b.2 ++ [y b.1 b.2]), prm⟩) :=
  (pe_bm PySem.F.plainAttrs_list PySem.F.slot_list_append PySem.F.type_list_append mt_append ho (pa_cons (pe_ex he) pa_nil hs) hbase hfew hline hs).wk fun σ H Q ⟨ok, g, e, q⟩ => ⟨ok, g, e, fun b1 u H1 kb1 f1 ok1 hu => by
    have hu : u = v := hu
    subst hu
    obtain ⟨_, p0, vs0, _, ev0, hp0, _, _⟩ := ok1.hk.at (hj0 b1)
    have ev0 : u = .ref p0 := ev0
    refine ⟨by rw [ev0]; exact .inl ⟨rfl, vs0, .inl (.inl hp0)⟩, b1, ok1, g, kb1, fun b2 w H2 kb2 f2 ok2 hw => ?_⟩
    obtain ⟨c, kb⟩ := grd_some kb2
    obtain ⟨G, ⟨p, vs, eG, ev, hp, z, pr⟩, _, turn⟩ := ok2.cell (hj b1 b2)
    have fzm : Fzs H2 (upd H2 p (.lst (vs ++ [w]))) := Fzs.mut hp fun z => z
    obtain ⟨ok3, f3⟩ := turn (upd H2 p (.lst (vs ++ [w]))) (oL Ee (xs b1 b2 ++ [y b1 b2])) (fun a o na e => by
      rw [upd_ne fun z => na (by rw [eG, z]; exact List.mem_singleton.mpr rfl)]; exact e)
      ⟨p, vs ++ [w], eG, ev, upd_same, by rw [List.length_append, List.length_singleton]; omega, paired_app (paired_mono (fun x _ => (Ee x).mono fzm) pr) (.cons ((Ee _).mono fzm hw) .nil)⟩
    exact ⟨p, vs, w, ev, rfl, hp, by rw [← paired_len pr]; exact c, q (b1, b2) .non _ kb ((f1.trans f2).trans f3) ok3 rfl⟩⟩
end
section
variable {a : Expr} {pos p : Pos} {j : Nat} {β α : Type} {T : Option γ} {k : β → Option γ} {Ee : α → Pd} {x : β → Option α} {Δ1 : β → Δs}
def TyP (Δ : Δs) (p : Pd) (t : String) : Prop := ∀ K F H v, Hk F Δ H → p.pr H v → TyX K H v (.type t)
theorem tyInt {i : Int} : TyP Δ (pInt i) "int" := fun _ _ _ _ _ h => by rw [h]; exact .base (.int _)
theorem tyStr {i : Str} : TyP Δ (pStr i) "str" := fun _ _ _ _ _ h => by rw [h]; exact .base (.str _)
theorem tyL {α : Type} {E : α → Pd} {xs : List α} : TyP Δ (pL E xs) "list" := fun _ _ _ _ _ ⟨_, _, _, e, h, _⟩ => by rw [e]; exact .base (.frz h)
theorem x_isi {E1 : β → Pd} {cls : Str} {cn : String} {p1 p2 : Pos} (t : β → String) (r : β → Bool) (hm : X.mg "isinstance" = none) (hm2 : X.mg cls = none) (ha : PE X a (tE W F Γ Δ T k E1 Δ1)) (ty : ∀ b, TyP (Δ1 b) (E1 b) (t b)) (hr : ∀ b, kitB (t b) cn = some (r b)) (hb : bootBuiltins cls = some (.type cn)) (hg : Gl X "isinstance" := by rfl) (hg2 : Gl X cls := by rfl)
    (hn : cls ≠ "__name__" := by decide) (hdb : (cls == ("__debug__" : Str)) = false := by decide) (hs : starEach [a, .Name cls p2] X.env = (false, eval a X.env) :: starEach [.Name cls p2] X.env := by rfl) (hs2 : starEach [.Name cls p2] X.env = (false, eval (.Name cls p2) X.env) :: starEach [] X.env := by rfl) (hpl : (backTo pos (starEach [.Name cls p2] X.env)).any (·.1) = false := by rfl) :
    PE X (.Call (.Name "isinstance" p1) [a, .Name cls p2] [] pos) (tE W F Γ Δ T k (fun b => pBl (r b)) Δ1) :=
  (b_callB call_isi hg hm boot_isinstance (by decide) (by decide) hs hs2 hpl _ _ ha (pe_bltn (v := .ty cn) hg2 hm2 hb rfl hn hdb)).wk fun σ H Q ⟨ok, g, e, q⟩ => ⟨ok, g, e, fun b v H1 kb f ok1 hv => ⟨v, .ty cn, .type (t b), .type cn, r b, rfl, .ty cn, ty b X.K F H1 v ok1.hk hv, kit_ty (hr b), q b _ H1 kb f ok1 rfl⟩⟩
end
end
end L3
end
section
set_option maxHeartbeats 8000000
namespace L3
open PySem PySem.Spec PyProof.Rows L2
section
variable {P : Program} {w : World} {A : Around} {E : Value → Shared → Prop} {s : Shared}
end
section
variable {X : Cx}
variable {W : Bool} {F : Fm} {Γ : Gm} {Δ : Δs} {γ : Type}
section
variable {a : Expr} {p pos : Pos} {β : Type} {T : Option γ} {E1 : β → Pd} {xs : β → List Int} {Δ1 : β → Δs}
end
end
end L3
end
section
set_option maxHeartbeats 8000000
namespace L3
open PySem PySem.Spec PyProof.Rows L2
section
variable {P : Program} {w : World} {A : Around} {E : Value → Shared → Prop} {s : Shared}
end
section
variable {X : Cx} {W : Bool} {F : Fm} {Γ : Gm} {Δ : Δs} {γ : Type}
section
variable {a : Expr} {p pos : Pos} {β : Type} {T : Option γ} {xs : β → List Int} {Δ1 : β → Δs} {k : β → Option γ}
end
end
end L3
end
section
set_option maxHeartbeats 4000000
namespace L3
open PySem PySem.Spec PyProof.Rows L2
section
variable {X : Cx} {W : Bool} {F : Fm} {Γ : Gm} {Δ : Δs} {γ : Type}
def FlatE {β : Type} (E : β → Pd) : Prop := ∀ b H H' v, (E b).pr H v → (E b).pr H' v
theorem feBl {β : Type} {i : β → Bool} : FlatE fun b => pBl (i b) := fun _ _ _ _ h => h
theorem Ok.lockC {σ : SS} {H : Hp} {i j : Nat} {c : Cell} (ok : Ok F Γ Δ σ H) (hj : Δ[j]? = some c) (hi : Γ[i]? = some (some (pV c.v))) : ∃ G, G.Nodup ∧ c.d.pr G H c.v ∧ ∀ H1, (∀ a, a ∉ G → H1 a = H a) → (∀ a ∈ G, ∀ u, H a = some u → ∃ o, H1 a = some (.frz o u)) → Ok F (Γ.set i (some c.d.pd)) (Δ.eraseIdx j) σ H1 := by
  obtain ⟨⟨Δ0, e, k⟩, n⟩ := ok
  subst e
  obtain ⟨A, x, B, e0, el, ex⟩ := map_at hj
  subst e0
  subst ex
  have k1 := k.perm mid_perm
  have hc := k1.del x List.mem_cons_self
  refine ⟨x.G, k1.ndup.1, hc, fun H1 h1 h2 => ?_⟩
  obtain ⟨r, fz, _⟩ := k1.rest (H' := H1) (fun a o na e => by rw [h1 a na]; exact e) (fun a ha => by
    obtain ⟨u, hu, _⟩ := x.d.cells hc a ha
    obtain ⟨o, ho⟩ := h2 a ha u hu
    exact ⟨_, ho⟩)
  refine ⟨⟨A ++ B, by rw [← el]; exact map_erase, r⟩, by rw [List.length_set]; exact n.len, fun m p e => ?_⟩
  by_cases h : m = i
  · subst h
    rw [List.getElem?_set_self (List.getElem?_eq_some_iff.mp hi).1] at e
    cases e
    obtain ⟨w, hs, hv⟩ := n.gam m _ hi
    have hv : w = x.v := hv
    subst hv
    exact ⟨_, hs, x.d.lockd hc h1 h2⟩
  · rw [List.getElem?_set_ne (fun z => h z.symm)] at e
    obtain ⟨w, hs, hv⟩ := n.gam m p e
    exact ⟨w, hs, p.mono fz hv⟩
def tLkE : List Addr → TE → TE
  | [], t => t
  | _ :: G, t => tLockE (tLkE G t)
theorem pe_lkE {e : Expr} {t : TE} (h : PE X e t) : ∀ G : List Addr, PE X e (tLkE G t)
  | [] => h
  | _ :: G => pe_lock (pe_lkE h G)
theorem tLkE_of {t : TE} {σ : SS} (mono : ∀ H (Q Q' : VK), (∀ v H', Q v H' → Q' v H') → t σ H Q → t σ H Q') : ∀ {G : List Addr} {H : Hp} {Q : VK}, G.Nodup → (∀ a ∈ G, ∃ u, H a = some u ∧ Mut (some u)) →
    (∀ H1, (∀ a, a ∉ G → H1 a = H a) → (∀ a ∈ G, ∀ u, H a = some u → ∃ o, H1 a = some (.frz o u)) → t σ H1 fun v H' => (∀ a ∈ G, H' a = H1 a) ∧ ∀ H2 : Hp, (∀ a, a ∉ G → H2 a = H' a) → (∀ a ∈ G, H2 a = H a) → Q v H2) → tLkE G t σ H Q
  | [], H, Q, _, _, k => mono H _ _ (fun v H' h => h.2 H' (fun _ _ => rfl) fun _ h => absurd h List.not_mem_nil) (k H (fun _ _ => rfl) fun _ h => absurd h List.not_mem_nil)
  | d :: G, H, Q, nd, hm, k => by
    obtain ⟨nd1, nd2⟩ := List.nodup_cons.mp nd
    obtain ⟨u, hu, mu⟩ := hm d List.mem_cons_self
    refine ⟨d, u, hu, mu, fun od => tLkE_of mono nd2 (fun a ha => ?_) fun H1 h1 h2 => ?_⟩
    · rw [upd_ne (fun e => nd1 (by rw [← e]; exact ha))]
      exact hm a (List.mem_cons_of_mem _ ha)
    · have k1 : ∀ a, a ∉ d :: G → H1 a = H a := fun a ha => by
        rw [h1 a (fun z => ha (List.mem_cons_of_mem _ z)), upd_ne (fun e => ha (by rw [e]; exact List.mem_cons_self))]
      have k2 : ∀ a ∈ d :: G, ∀ w, H a = some w → ∃ o, H1 a = some (.frz o w) := fun a ha w hw => by
        by_cases e : a = d
        · subst e
          rw [hu] at hw
          cases hw
          exact ⟨od, by rw [h1 a nd1, upd_same]⟩
        · rcases List.mem_cons.mp ha with z | z
          · exact absurd z e
          · exact h2 a z w (by rw [upd_ne e]; exact hw)
      refine mono _ _ _ (fun v H' q => ⟨fun a ha => q.1 a (List.mem_cons_of_mem _ ha), fun H2 r1 r2 => ⟨by rw [r1 d nd1, q.1 d List.mem_cons_self, h1 d nd1, upd_same], q.2 _ (fun a ha => ?_) (fun a ha => ?_)⟩⟩) (k H1 k1 k2)
      · rw [upd_ne (fun e => ha (by rw [e]; exact List.mem_cons_self)), r1 a fun z => ha (List.mem_cons_of_mem _ z)]
      · by_cases e : a = d
        · subst e; rw [upd_same, hu]
        · rcases List.mem_cons.mp ha with z | z
          · exact absurd z e
          · rw [upd_ne e, r2 a z, upd_ne e]
theorem lk_back {G : List Addr} {H H1 H' H2 : Hp} (h1 : ∀ a, a ∉ G → H1 a = H a) (st : Gr H1 H') (r1 : ∀ a, a ∉ G → H2 a = H' a) (r2 : ∀ a ∈ G, H2 a = H a) : Gr H H2 := fun a o e => by
  by_cases ha : a ∈ G
  · rw [r2 a ha]; exact e
  · rw [r1 a ha]
    exact st a o (by rw [h1 a ha]; exact e)
theorem lk_kept {G : List Addr} {H H1 H' : Hp} (hm : ∀ a ∈ G, ∃ o, H a = some o ∧ Mut (some o)) (h2 : ∀ a ∈ G, ∀ u, H a = some u → ∃ o, H1 a = some (.frz o u)) (st : Gr H1 H') : ∀ a ∈ G, H' a = H1 a := fun a ha => by
  obtain ⟨u, hu, _⟩ := hm a ha
  obtain ⟨o, ho⟩ := h2 a ha u hu
  rw [ho]
  exact st a _ ho
theorem x_lockG {e : Expr} {β : Type} {T : Option γ} {k : β → Option γ} {E : β → Pd} {v : V} {d : Od} {prm : Option Nat} (j i : Nat) (fe : FlatE E)
    (he : PE X e (tE false F (Γ.set i (some d.pd)) (Δ.eraseIdx j) T k E fun _ => Δ.eraseIdx j)) (hj : Δ[j]? = some ⟨v, d, prm⟩ := by rfl) (hi : Γ[i]? = some (some (pV v)) := by rfl) : PE X e (tE W F Γ Δ T k E fun _ => Δ) :=
  (pe_ex fun G => pe_lkE he G).wk fun σ H Q ⟨ok, g, e, q⟩ => by
    obtain ⟨G, nd, hc, lk⟩ := ok.lockC hj hi
    refine ⟨G, tLkE_of (fun H Q Q' h ⟨a, g, b, c⟩ => ⟨a, g, b, fun b v H' k s o p => h v H' (c b v H' k s o p)⟩) nd (d.cells hc) fun H1 h1 h2 => ⟨lk H1 h1 h2, g, e, fun b w H' kb st ok2 hw => ⟨lk_kept (d.cells hc) h2 st.gr, fun H2 r1 r2 => ?_⟩⟩⟩
    have g2 := lk_back h1 st.gr r1 r2
    exact q b w H2 kb g2.st (ok.gr g2) (fe b _ _ w hw)
end
end L3
end
section
set_option maxHeartbeats 4000000
namespace L3
open PySem PySem.Spec PyProof.Rows L2
section
variable {X : Cx} {W : Bool} {F : Fm} {Γ : Gm} {Δ : Δs} {γ : Type}
theorem Own3.frame {α : Type} {D : α → Od} {H H' : Hp} (f : Fzs H H') : ∀ {xs : List α} {vs : List V} {gs : List (List Addr)}, Own3 D H xs vs gs → (∀ a ∈ gs.flatten, ∀ o, H a = some o → H' a = some o) → Own3 D H' xs vs gs
  | _, _, _, .nil, _ => .nil
  | _, _, _, .cons r t, k => by
    rw [List.flatten_cons] at k
    exact .cons ((D _).frame r (fun a ha => k a (List.mem_append_left _ ha)) f) (Own3.frame f t fun a ha => k a (List.mem_append_right _ ha))
theorem Own3.cells {α : Type} {D : α → Od} {H : Hp} : ∀ {xs : List α} {vs : List V} {gs : List (List Addr)}, Own3 D H xs vs gs → ∀ a ∈ gs.flatten, ∃ o, H a = some o ∧ Mut (some o)
  | _, _, _, .nil, a, h => by simp at h
  | _, _, _, .cons r t, a, h => by
    rw [List.flatten_cons] at h
    rcases List.mem_append.mp h with h | h
    · exact (D _).cells r a h
    · exact t.cells a h
theorem Own3.lockd {α : Type} {D : α → Od} {H H1 : Hp} {S : List Addr} (h1 : ∀ a, a ∉ S → H1 a = H a) (h2 : ∀ a ∈ S, ∀ u, H a = some u → ∃ o, H1 a = some (.frz o u)) (hm : ∀ a ∈ S, ∃ o, H a = some o ∧ Mut (some o)) : ∀ {xs : List α} {vs : List V} {gs : List (List Addr)}, Own3 D H xs vs gs → (∀ a ∈ gs.flatten, a ∈ S) → Paired (fun x u => (D x).pd.pr H1 u) xs vs
  | _, _, _, .nil, _ => .nil
  | x :: _, v :: _, g :: gs, .cons r t, sub => by
    rw [List.flatten_cons] at sub
    refine .cons ?_ (Own3.lockd h1 h2 hm t fun a ha => sub a (List.mem_append_right _ ha))
    have m1 : ∀ a, a ∉ g → (fun a => if a ∈ g then H1 a else H a : Hp) a = H a := fun a ha => if_neg ha
    have m2 : ∀ a ∈ g, ∀ u, H a = some u → ∃ o, (fun a => if a ∈ g then H1 a else H a : Hp) a = some (.frz o u) := fun a ha u e => by
      obtain ⟨o, ho⟩ := h2 a (sub a (List.mem_append_left _ ha)) u e
      exact ⟨o, (if_pos ha).trans ho⟩
    refine (D x).pd.mono (fun a o p e => ?_) ((D x).lockd r m1 m2)
    by_cases ha : a ∈ g
    · exact (if_pos ha).symm.trans e
    · have e : H a = some o := (if_neg ha).symm.trans e
      by_cases hs : a ∈ S
      · obtain ⟨u, hu, mu⟩ := hm a hs
        rw [e] at hu
        cases hu
        exact absurd p (Mut.npst mu)
      · rw [h1 a hs]; exact e
theorem Own3.turn {α : Type} {D : α → Od} {H H' : Hp} {y : α} {v : V} {g : List Addr} (f : Fzs H H') (kp : ∀ a o, a ∉ g → H a = some o → H' a = some o) (new : (D y).pr g H' v) : ∀ {xs : List α} {vs : List V} {gs : List (List Addr)} {m : Nat}, Own3 D H xs vs gs → gs.flatten.Nodup → vs[m]? = some v → gs[m]? = some g → Own3 D H' (xs.set m y) vs gs
  | _, _, _, _, .nil, _, e, _ => by simp at e
  | _, _, _, 0, .cons r t, nd, e1, e2 => by
    simp at e1 e2
    subst e1 e2
    rw [List.flatten_cons] at nd
    exact .cons new (t.frame f fun a ha o e => kp a o (fun hg => (List.nodup_append.mp nd).2.2 a hg a ha rfl) e)
  | _, _, g0 :: gs, m + 1, .cons r t, nd, e1, e2 => by
    rw [List.flatten_cons] at nd
    have e2' : gs[m]? = some g := by simpa using e2
    refine .cons ((D _).frame r (fun a ha o e => kp a o (fun hg => ?_) e) f) (Own3.turn f kp new t (List.nodup_append.mp nd).2.1 (by simpa using e1) e2')
    exact (List.nodup_append.mp nd).2.2 a ha a (List.mem_flatten.mpr ⟨g, List.mem_of_getElem? e2', hg⟩) rfl
theorem Own3.app {α : Type} {D : α → Od} {H : Hp} {y : α} {v : V} {g : List Addr} (r : (D y).pr g H v) : ∀ {xs : List α} {vs : List V} {gs : List (List Addr)}, Own3 D H xs vs gs → Own3 D H (xs ++ [y]) (vs ++ [v]) (gs ++ [g])
  | _, _, _, .nil => .cons r .nil
  | _, _, _, .cons a t => .cons a (t.app r)
end
end L3
end
section
set_option maxHeartbeats 4000000
namespace L3
open PySem PySem.Spec PyProof.Rows L2
section
variable {X : Cx} {W : Bool} {F : Fm} {Γ : Gm} {Δ : Δs} {γ : Type} {N : Fn γ} {rest : List Stmt}
theorem s_letOA {i : Nat} {st : Stmt} {β α : Type} {T : Option γ} {Δ' : β → Δs} {val : β → α} {k2 : β → α → Option γ} (D0 : α → Od) (hst : PS X st (tAsg (tO true F Γ Δ T (fun b => (some (val b)).bind (k2 b)) (fun b => D0 (val b)) Δ') (gName i)))
    (hr : ∀ b a v, PSs X rest (tS F (Γ.set i (some (pV v))) (⟨v, D0 a, none⟩ :: Δ' b) N (k2 b a))) : PSs X (st :: rest) (tS F Γ Δ N T) :=
  (pss_cons hst (pss_ex fun b => pss_ex fun v => hr b (val b) v)).wk fun D σ H ⟨ok, g, e, f⟩ => ⟨ok, g, e, fun b v H' kb fz ok' => ⟨b, v, ok'.ok.set rfl, g, kb, N.mono f fz.fz⟩⟩
theorem erase_perm {α : Type} {c : α} : ∀ {l : List α} {j : Nat}, l[j]? = some c → (c :: l.eraseIdx j).Perm l
  | [], _, h => by simp at h
  | x :: l, 0, h => by
    have e : x = c := by simpa using h
    rw [e]; exact List.Perm.refl _
  | x :: l, j + 1, h => by
    have q : l[j]? = some c := by simpa using h
    exact (List.Perm.swap x c _).trans ((erase_perm q).cons x)
theorem s_retV {e : Expr} {pos : Pos} {β ρ : Type} {T : Option γ} {Δ' : β → Δs} {P : ρ → Δs} {Ro : ρ → Od} {ι : ρ → γ} {rv : β → ρ} {v : V} (j : Nat) (hN : ∀ H r D, N.fin H (ι r) D → RO F P Ro r D.rt) (he : PE X e (tE true F Γ Δ T (fun b => some (ι (rv b))) (fun _ => pV v) Δ'))
    (hj : ∀ b, (Δ' b)[j]? = some ⟨v, Ro (rv b), none⟩) (hP : ∀ b, (P (rv b)).Sublist ((Δ' b).eraseIdx j)) : PSs X [.Return (some e) pos] (tS F Γ Δ N T) :=
  (pss_one (ps_ret he)).wk fun D σ H ⟨ok, g, e, f⟩ => ⟨ok, g, e, fun b w H' kb fz ok' hw => by
    have eg : g = ι (rv b) := (Option.some.inj kb).symm
    rw [eg] at f
    have hw : w = v := hw
    subst hw
    exact hN _ _ D f w H' ((ok'.hk.perm (erase_perm (hj b)).symm).less ((hP b).cons₂ _))⟩
end
end L3
end
section
set_option maxHeartbeats 4000000
namespace L3
open PySem PySem.Spec PyProof.Rows L2
section
variable {X : Cx} {W : Bool} {F : Fm} {Γ : Gm} {Δ : Δs} {γ : Type}
section
variable {a : Expr} {pos : Pos} {β : Type} {T : Option γ} {k : β → Option γ} {Δ1 : β → Δs} {i : β → Int}
theorem x_neg (ha : PE X a (tE W F Γ Δ T k (fun b => pInt (i b)) Δ1)) : PE X (.UnaryOp .USub a pos) (tE W F Γ Δ T k (fun b => pInt (-(i b))) Δ1) :=
  x1t (u_un un_neg) ha fun b σ v H Q _ hv q => ⟨i b, hv, q _ rfl⟩
end
section
variable {a b : Expr} {pos : Pos} {β1 β2 : Type} {T : Option γ} {k1 : β1 → Option γ} {k : β1 × β2 → Option γ} {Δ1 : β1 → Δs} {Δ2 : β1 → β2 → Δs} {i : β1 → Str} {j : β1 → β2 → Str}
theorem x_addS (ha : PE X a (tE W F Γ Δ T k1 (fun b => pStr (i b)) Δ1)) (hb : ∀ b1, PE X b (tE W F Γ (Δ1 b1) (k1 b1) (fun b2 => grd ((i b1).length + (j b1 b2).length ≤ sizeLine) (k (b1, b2))) (fun b => pStr (j b1 b)) (Δ2 b1))) :
    PE X (.BinOp a .Add b pos) (tE W F Γ Δ T k (fun b => pStr (i b.1 ++ j b.1 b.2)) fun b => Δ2 b.1 b.2) :=
  x2g (b_op op_add_str) ha hb fun b1 b2 _ v w H Q _ c hv hw q => ⟨i b1, j b1 b2, hv, hw, c, q _ rfl⟩
end
section
variable {a b : Expr} {pos : Pos} {β1 β2 : Type} {T : Option γ} {k1 : β1 → Option γ} {k : β1 × β2 → Option γ} {Δ1 : β1 → Δs} {Δ2 : β1 → β2 → Δs} {i : β1 → Option Int} {j : β1 → β2 → Option Int} {c : β1 → Option Str} {d : β1 → β2 → Option Str}
end
section
variable {T : Option γ}
theorem y_var (i : Nat) {x : Str} {pos : Pos} {p : Pd} (h : Γ[i]? = some (some p) := by rfl) (hN : X.N[i]? = some x := by rfl) (hv : Vis X.env.scope x := by first | exact Or.inl rfl | exact Or.inr (Or.inl rfl) | exact Or.inr (Or.inr rfl))
    (hd : (x == ("__debug__" : Str)) = false := by decide) (hcd : (x == ("__classdict__" : Str)) = false := by decide) : PE X (.Name x pos) (tE W F Γ Δ T (fun _ : Unit => T) (fun _ => p) fun _ => Δ) := x_var (k := fun _ => T) i h hN hv hd hcd
theorem y_int {i : Int} {j pos} : PE X (.Constant (.int i) j pos) (tE W F Γ Δ T (fun _ : Unit => T) (fun _ => pInt i) fun _ => Δ) := x_int (k := fun _ => T)
theorem y_str {i : Str} {j pos} : PE X (.Constant (.str i) j pos) (tE W F Γ Δ T (fun _ : Unit => T) (fun _ => pStr i) fun _ => Δ) := x_str (k := fun _ => T)
end
end
end L3
end
section
set_option maxHeartbeats 4000000
namespace L3
open PySem PySem.Spec PyProof.Rows L2
section
variable {X : Cx} {W : Bool} {F : Fm} {Γ : Gm} {Δ : Δs} {γ : Type}
theorem x_out {β : Type} {e : Expr} {T T' : Option γ} {k : β → Option γ} {E E' : β → Pd} {Δ' Δ'' : β → Δs} (h : PE X e (tE W F Γ Δ T' k E' Δ''))
    (hT : T = T' := by rfl) (hE : ∀ b, E b = E' b := by intro _; rfl) (hΔ : ∀ b, Δ' b = Δ'' b := by intro _; rfl) : PE X e (tE W F Γ Δ T k E Δ') := by
  have e1 : E = E' := funext hE
  have e2 : Δ' = Δ'' := funext hΔ
  subst hT e1 e2
  exact h
theorem x_kd {β : Type} {e : Expr} {T : Option γ} {k : β → Option γ} {E E' : β → Pd} {Δ' : β → Δs} (h : PE X e (tE W F Γ Δ T k E' Δ')) (hE : ∀ b, E b = E' b := by intro _; rfl) : PE X e (tE W F Γ Δ T k E Δ') := by
  have e1 : E = E' := funext hE
  subst e1
  exact h
theorem o_kd {β : Type} {e : Expr} {T : Option γ} {k : β → Option γ} {E E' : β → Od} {Δ' : β → Δs} (h : PE X e (tO W F Γ Δ T k E' Δ')) (hE : ∀ b, E b = E' b := by intro _; rfl) : PE X e (tO W F Γ Δ T k E Δ') := by
  have e1 : E = E' := funext hE
  subst e1
  exact h
theorem t_kd {β : Type} {e : Expr} {T : Option γ} {k : β → Option γ} {c c' : β → Bool} {Δ' : β → Δs} (h : PT X e (tTs W F Γ Δ T k c' Δ')) (hE : ∀ b, c b = c' b := by intro _; rfl) : PT X e (tTs W F Γ Δ T k c Δ') := by
  have e1 : c = c' := funext hE
  subst e1
  exact h
theorem s_T {st : List Stmt} {N : Fn γ} {T T' : Option γ} (h : PSs X st (tS F Γ Δ N T')) (hT : T = T' := by rfl) : PSs X st (tS F Γ Δ N T) := by
  subst hT
  exact h
theorem t_totV {β : Type} {e : Expr} {T : Option γ} {c : β → Bool} {Δ' : β → Δs} (c0 : Bool) (b0 : β) (hβ : ∀ b, b = b0) (he : PT X e (tTs W F Γ Δ T (fun _ : β => T) c Δ')) (hΔ : Δ = Δ' b0 := by rfl) (hc : c0 = c b0 := by rfl) : PT X e (tTs W F Γ Δ T (fun _ : Unit => T) (fun _ => c0) fun _ => Δ) := by
  have h := t_tot b0 hβ he
  rw [← hc, ← hΔ] at h
  exact h
theorem x_totV {β : Type} {e : Expr} {T : Option γ} {E : β → Pd} {Δ' : β → Δs} (E0 : Pd) (b0 : β) (hβ : ∀ b, b = b0) (he : PE X e (tE W F Γ Δ T (fun _ : β => T) E Δ')) (hΔ : Δ = Δ' b0 := by rfl) (hc : E0 = E b0 := by rfl) : PE X e (tE W F Γ Δ T (fun _ : Unit => T) (fun _ => E0) fun _ => Δ) := by
  have h := x_tot b0 hβ he
  rw [← hc, ← hΔ] at h
  exact h
end
end L3
end
section
set_option maxHeartbeats 4000000
namespace L3
open PySem PySem.Spec PyProof.Rows L2
def pS (K : PySem.W.Frag) (xs : List Int) : Pd where
  pr H v := ∃ a, v = .ref a ∧ xs.length ≤ sizeLine ∧ ((∃ o, H a = some (.frz o (.lst (xs.map V.int)))) ∨ ∃ (o : Obj) (its : Array Value) (n : Nat), K.lookup a = some o ∧ o.cls = .type "list" ∧ o.dict = none ∧ o.data = .seq its n ∧ its.size ≤ sizeLine ∧ Vals (xs.map V.int) its.toList)
  mono := fun f ⟨a, e, z, h⟩ => ⟨a, e, z, h.imp (fun ⟨o, h⟩ => ⟨o, f _ _ trivial h⟩) id⟩
theorem pS_sq {K : PySem.W.Frag} {xs : List Int} {H : Hp} {v : V} (h : (pS K xs).pr H v) : ∃ a, v = .ref a ∧ SqL K H a (xs.map V.int) ∧ xs.length ≤ sizeLine := by
  obtain ⟨a, e, z, h⟩ := h
  refine ⟨a, e, ?_, z⟩
  rcases h with ⟨o, h⟩ | h
  · exact .inl (.inr ⟨o, h⟩)
  · exact .inr h
theorem pS_of {K : PySem.W.Frag} {xs : List Int} {H : Hp} {v : V} (h : (pL pInt xs).pr H v) : (pS K xs).pr H v := by
  obtain ⟨a, o, vs, e, h, z, p⟩ := h
  rw [paired_ints p] at h
  exact ⟨a, e, z, .inl ⟨o, h⟩⟩
section
variable {X : Cx} {W : Bool} {F : Fm} {Γ : Gm} {Δ : Δs} {γ : Type}
section
variable {a b : Expr} {pos : Pos} {β1 β2 : Type} {T : Option γ} {k1 : β1 → Option γ} {Δ1 : β1 → Δs} {Δ2 : β1 → β2 → Δs} {xs : β1 → List Int} {j : β1 → β2 → Int}
theorem x_ixS {k : (β1 × β2) × Int → Option γ} (ha : PE X a (tE W F Γ Δ T k1 (fun b => pS X.K (xs b)) Δ1)) (hb : ∀ b1, PE X b (tE W F Γ (Δ1 b1) (k1 b1) (fun b2 => (atI (xs b1) (j b1 b2)).bind fun x => k ((b1, b2), x)) (fun b => pInt (j b1 b)) (Δ2 b1)))
    (hs : PlainIx b := by exact fun _ _ => rfl) : PE X (.Subscript a b pos) (tE W F Γ Δ T k (fun b => pInt b.2) fun b => Δ2 b.1.1 b.1.2) :=
  x2p (b_ix ix_list hs) ha hb fun b1 b2 x σ v w H Q ok e hv hw q => by
    obtain ⟨p, ev, sq, _⟩ := pS_sq hv
    obtain ⟨u, eu, pu⟩ := paired_atI (ints_paired (H := H) (xs b1)) e
    exact ⟨p, _, j b1 b2, u, ev, hw, sq, eu, q u pu⟩
end
section
variable {a : Expr} {pos p : Pos} {β : Type} {T : Option γ} {Δ1 : β → Δs} {xs : β → List Int} {k : β → Option γ}
theorem x_lenS (hm : X.mg "len" = none) (ha : PE X a (tE W F Γ Δ T k (fun b => pS X.K (xs b)) Δ1)) (hg : Gl X "len" := by rfl) (hs : starEach [a] X.env = (false, eval a X.env) :: starEach [] X.env := by rfl) : PE X (.Call (.Name "len" p) [a] [] pos) (tE W F Γ Δ T k (fun b => pInt ((xs b).length : Int)) Δ1) :=
  x1t (u_callB call_len_seq hg hm PySem.boot_len (by decide) (by decide) hs) ha fun b σ v H Q ok hv q => by
    obtain ⟨p, ev, sq, _⟩ := pS_sq hv
    rw [ev]
    exact ⟨p, _, rfl, .inl sq, by rw [List.length_map]; exact q _ rfl⟩
end
end
def Sp_S (K : PySem.W.Frag) (Mf : List Int → Option Bool) : Sp := fun vs H Q _ => ∃ (a : Addr) (ns : List Int), vs = [.ref a] ∧ ns.length ≤ sizeLine ∧ SqL K H a (ns.map V.int) ∧ ∃ r, Mf ns = some r ∧ ∀ H', Q (.bl r) H'
theorem fn_S {P : Program} {w : World} {K : PySem.W.Frag} {mg : Str → Option Value} {base : Heap} {x qual : Str} {params : Arguments} {body : List Stmt} {scope : Scope} {dvs : List V} {kws : List (Str × V)} {f : Addr} {fd : FuncData} {N ps : List Str} {k : Nat} {Mf : List Int → Option Bool}
    (FD : FunD K x qual params body scope dvs kws f fd) (S : FnScope N ps scope) (hl : 1 = ps.length)
    (hb : ∀ (cdv : Value) (A : Around) (outer : List Env) (s : Shared) (H : Hp) (E : XK) (hr : Room k (A.deeper (envOfC qual scope s.heap.objs.size f cdv))) (M : List (List Addr)) (a1 : List Int), PSs (cxOf CX0 P w K mg base N qual scope f cdv A outer s H E).nox body
      (tS ⟨H, M⟩ (([pS K a1] : List Pd).map some ++ List.replicate (N.length - 1) none) [] (fF (RF ⟨H, M⟩ (fun _ => []) pBl)) (Mf a1))) : FnOk P w K mg base CX0 (k + 1) f fd ps (Sp_S K Mf) := by
  refine FD.ok S (fun vs H Q E h => ?_) (fun cdv A outer s H vs Q E hr h => ?_)
  · obtain ⟨a, ns, rfl, _⟩ := h
    exact hl
  · obtain ⟨a, ns, rfl, z, sq, r, hM, fin⟩ := h
    have fin' : ∀ M, RF ⟨H, M⟩ (fun _ => []) pBl r Q := fun M v H' _ hv => by
      rw [show v = .bl r from hv]
      exact fin H'
    by_cases hu : H a = some (.lst (ns.map V.int))
    · refine ⟨tS ⟨H, [[a]]⟩ (([pV (.ref a)] : List Pd).map some ++ List.replicate (N.length - 1) none) [⟨.ref a, oL pInt ns, some 0⟩] (fF (RF ⟨H, [[a]]⟩ (fun _ => []) pBl)) (Mf ns), PSs.nox (s_frz (i := 0) (c := ⟨.ref a, oL pInt ns, some 0⟩) 0 ?_), ok_start (Δ := [⟨[a], .ref a, oL pInt ns, some 0⟩]) rfl (.cons rfl .nil) ?_ ?_ ?_, r, hM, fin' _⟩
      · refine (hb cdv A outer s H E hr [[a]] ns).wk fun D σ H' ⟨ok, g, e, q⟩ => ⟨⟨ok.hk, ok.len, fun i p e => ?_⟩, g, e, q⟩
        cases i with
        | zero =>
          cases e
          obtain ⟨v, hs, hv⟩ := ok.gam 0 (pL pInt ns) rfl
          exact ⟨v, hs, pS_of hv⟩
        | succ i => exact ok.gam (i + 1) p e
      · intro c hc
        rw [List.mem_singleton.mp hc]
        exact ⟨a, ns.map V.int, rfl, rfl, hu, z, ints_paired ns⟩
      · exact List.nodup_cons.mpr ⟨by simp, List.nodup_nil⟩
      · intro i c h
        match i, h with
        | 0, h => cases h; rfl
        | _ + 1, h => cases h
    · refine ⟨_, PSs.nox (hb cdv A outer s H E hr [] ns), ok_start (Δ := []) rfl (.cons ⟨a, rfl, z, ?_⟩ .nil) (fun _ h => nomatch h) List.nodup_nil (fun _ _ h => nomatch h), r, hM, fin' _⟩
      rcases sq with (h | ⟨o, h⟩) | h
      · exact absurd h hu
      · exact .inl ⟨o, h⟩
      · exact .inr h
end L3
end
section
set_option maxHeartbeats 4000000
namespace L3
open PySem PySem.Spec PyProof.Rows L2
section
variable {κ α : Type} [DecidableEq κ]
def dget (d : List (κ × α)) (k : κ) : Option α := (d.find? fun p => decide (p.1 = k)).map (·.2)
def dhas (d : List (κ × α)) (k : κ) : Bool := d.any fun p => decide (p.1 = k)
def dput (d : List (κ × α)) (k : κ) (v : α) : List (κ × α) := if (d.any fun p => decide (p.1 = k)) = true then d.map (fun p => if p.1 = k then (p.1, v) else p) else d ++ [(k, v)]
def ddel (d : List (κ × α)) (k : κ) : List (κ × α) := d.filter fun p => decide (p.1 ≠ k)
theorem dput_len (d : List (κ × α)) (k : κ) (v : α) : (dput d k v).length ≤ d.length + 1 := by
  unfold dput
  split
  · rw [List.length_map]; omega
  · rw [List.length_append]; exact Nat.le_refl _
end
section
variable {κ α : Type} [DecidableEq κ] [Ky κ]
def oM (E : α → Pd) (xs : List (κ × α)) : Od where
  pr G H v := ∃ p kvs, G = [p] ∧ v = .ref p ∧ H p = some (.dK kvs) ∧ xs.length ≤ sizeLine ∧ Paired (PrM E H) xs kvs
  pd := pM E xs
  frame := fun ⟨p, vs, eg, ev, h, z, q⟩ k f => ⟨p, vs, eg, ev, k p (by rw [eg]; exact List.mem_singleton.mpr rfl) _ h, z, prM_mono f q⟩
  cells := fun ⟨p, vs, eg, ev, h, z, q⟩ => one_cells eg h trivial
  lockd := fun ⟨p, vs, eg, ev, h, z, q⟩ h1 h2 => by
    obtain ⟨o, ho⟩ := h2 p (by rw [eg]; exact List.mem_singleton.mpr rfl) _ h
    exact ⟨p, o, vs, ev, ho, z, prM_mono (lk_fzs (one_cells eg h trivial) h1) q⟩
theorem dget_neg {κ α : Type} [DecidableEq κ] {p : κ × α} {r : List (κ × α)} {k : κ} (h : ¬ p.1 = k) : dget (p :: r) k = dget r k := by unfold dget; rw [List.find?_cons, decide_eq_false h]
theorem dget_pos {κ α : Type} [DecidableEq κ] {p : κ × α} {r : List (κ × α)} {k : κ} (h : p.1 = k) : dget (p :: r) k = some p.2 := by unfold dget; rw [List.find?_cons, decide_eq_true h]; rfl
theorem prM_get {E : α → Pd} {H : Hp} (k : κ) : ∀ {xs : List (κ × α)} {us : List (Key × V)}, Paired (PrM E H) xs us → (dget xs k = none ∧ valV us (Ky.ky k) = none) ∨ ∃ x v, dget xs k = some x ∧ valV us (Ky.ky k) = some v ∧ (E x).pr H v
  | [], [], .nil => .inl ⟨rfl, rfl⟩
  | x :: xs, u :: us, .cons r t => by
    by_cases h : x.1 = k
    · exact .inr ⟨x.2, u.2, dget_pos h, valV_pos (by rw [r.1, h]), r.2⟩
    · rw [dget_neg h, valV_neg (fun z => h (Ky.inj (by rw [← r.1, z])))]
      exact prM_get k t
theorem prM_any {E : α → Pd} {H : Hp} (k : κ) : ∀ {xs : List (κ × α)} {us : List (Key × V)}, Paired (PrM E H) xs us → (xs.any fun p => decide (p.1 = k)) = us.any fun kv => decide (kv.1 = Ky.ky k)
  | _, _, .nil => rfl
  | _, _, .cons (a := x) (b := u) r t => by
    rw [List.any_cons, List.any_cons, prM_any k t]
    congr 1
    by_cases h : x.1 = k
    · rw [decide_eq_true h, decide_eq_true (by rw [r.1, h])]
    · rw [decide_eq_false h, decide_eq_false (fun z => h (Ky.inj (by rw [← r.1, z])))]
theorem prM_map {E : α → Pd} {H : Hp} {k : κ} {y : α} {v : V} (hv : (E y).pr H v) : ∀ {xs : List (κ × α)} {us : List (Key × V)}, Paired (PrM E H) xs us → Paired (PrM E H) (xs.map fun p => if p.1 = k then (p.1, y) else p) (us.map fun kv => if kv.1 = Ky.ky k then (kv.1, v) else kv)
  | _, _, .nil => .nil
  | _, _, .cons (a := x) (b := u) r t => by
    rw [List.map_cons, List.map_cons]
    refine .cons ?_ (prM_map hv t)
    by_cases h : x.1 = k
    · rw [if_pos h, if_pos (by rw [r.1, h])]
      exact ⟨r.1, hv⟩
    · rw [if_neg h, if_neg (fun z => h (Ky.inj (by rw [← r.1, z])))]
      exact r
theorem prM_put {E : α → Pd} {H : Hp} {k : κ} {y : α} {v : V} (hv : (E y).pr H v) {xs : List (κ × α)} {us : List (Key × V)} (h : Paired (PrM E H) xs us) : Paired (PrM E H) (dput xs k y) (putK us (Ky.ky k) v) := by
  unfold dput putK
  rw [prM_any k h]
  split
  · exact prM_map hv h
  · exact paired_app h (.cons ⟨rfl, hv⟩ .nil)
end
section
variable {X : Cx} {W : Bool} {F : Fm} {Γ : Gm} {Δ : Δs} {γ : Type} {κ α : Type} [DecidableEq κ] [Ky κ]
def RM (E : α → Pd) (xs : List (κ × α)) (H : Hp) (v : V) : Prop := ∃ a kvs, v = .ref a ∧ Rd H a (.dK kvs) ∧ xs.length ≤ sizeLine ∧ Paired (PrM E H) xs kvs
def RdM (Δ : Δs) (p : Pd) (E : α → Pd) (xs : List (κ × α)) : Prop := ∀ F H v, Hk F Δ H → p.pr H v → RM E xs H v
theorem rdMF {E : α → Pd} {xs : List (κ × α)} : RdM Δ (pM E xs) E xs := fun _ _ _ _ ⟨a, o, vs, e, h, z, p⟩ => ⟨a, vs, e, .inr ⟨o, h⟩, z, p⟩
theorem Ok.newM {σ : SS} {H : Hp} {p : Addr} {E : α → Pd} {xs : List (κ × α)} {kvs : List (Key × V)} (ok : Ok F Γ Δ σ H) (hp : H p = none) (z : xs.length ≤ sizeLine) (q : Paired (PrM E H) xs kvs) : OkN W F Γ H (.ref p) (oM E xs) Δ σ (upd H p (.dK kvs)) ∧ Gr H (upd H p (.dK kvs)) := by
  have g : Gr H (upd H p (.dK kvs)) := Gr.new hp
  exact ⟨ok.add g (List.nodup_cons.mpr ⟨List.not_mem_nil, List.nodup_nil⟩) (fun a ha => by rw [List.mem_singleton.mp ha]; exact hp) ⟨p, kvs, rfl, rfl, upd_same, z, prM_mono g.fzs q⟩, g⟩
section
variable {a b : Expr} {pos : Pos} {β1 β2 : Type} {T : Option γ} {k1 : β1 → Option γ} {Δ1 : β1 → Δs} {Δ2 : β1 → β2 → Δs} {E1 : β1 → Pd} {Ee : α → Pd} {xs : β1 → β2 → List (κ × α)} {j : β1 → β2 → κ}
theorem x_dget {k : (β1 × β2) × α → Option γ} (hu : X.A.units + 64 < cLine) (ha : PE X a (tE W F Γ Δ T k1 E1 Δ1)) (hb : ∀ b1, PE X b (tE W F Γ (Δ1 b1) (k1 b1) (fun b2 => (dget (xs b1 b2) (j b1 b2)).bind fun x => k ((b1, b2), x)) (fun b => Ky.kp (j b1 b)) (Δ2 b1)))
    (rd : ∀ b1 b2, RdM (Δ2 b1 b2) (E1 b1) Ee (xs b1 b2)) (hs : NoSl b := by exact fun _ _ => rfl) : PE X (.Subscript a b pos) (tE W F Γ Δ T k (fun b => Ee b.2) fun b => Δ2 b.1.1 b.1.2) :=
  x2p (r := fun x y H Q => ∃ a v, x = .ref a ∧ DGet H a y (some v) ∧ Q v H) (fun _ _ ha hb => pe_dget (by omega) ha hb hs) ha hb fun b1 b2 x σ v w H Q ok e hv hw q => by
    obtain ⟨p, kvs, ev, r, _, pr⟩ := rd b1 b2 F H v ok.hk hv
    rcases prM_get (j b1 b2) pr with ⟨e0, _⟩ | ⟨x', u, e1, e2, hu⟩
    · rw [e] at e0; cases e0
    · rw [e] at e1; cases e1
      exact ⟨p, u, ev, .inl ⟨kvs, Ky.ky (j b1 b2), r, Ky.is hw, e2.symm⟩, q u hu⟩
end
section
variable {a b : Expr} {pos : Pos} {β1 β2 : Type} {T : Option γ} {k1 : β1 → Option γ} {k : β1 × β2 → Option γ} {Δ1 : β1 → Δs} {Δ2 : β1 → β2 → Δs} {E2 : β1 → β2 → Pd} {Ee : α → Pd} {xs : β1 → β2 → List (κ × α)} {i : β1 → κ}
end
end
end L3
end
section
set_option maxHeartbeats 4000000
namespace L3
open PySem PySem.Spec PyProof.Rows L2
theorem lt_irr : ∀ a : List Nat, ltCps a a = false
  | [] => rfl
  | x :: r => by simp [ltCps, lt_irr r]
theorem lt_tri : ∀ {a b : List Nat}, ltCps a b = false → ltCps b a = false → a = b
  | [], [], _, _ => rfl
  | [], _ :: _, h, _ => by simp [ltCps] at h
  | _ :: _, [], _, h => by simp [ltCps] at h
  | x :: r, y :: t, h1, h2 => by
    simp only [ltCps, Bool.or_eq_false_iff, decide_eq_false_iff_not, Nat.not_lt] at h1 h2
    have e : x = y := by omega
    subst e
    simp only [beq_self_eq_true, Bool.true_and] at h1 h2
    rw [lt_tri h1.2 h2.2]
theorem le_tr : ∀ {a b c : List Nat}, ltCps b a = false → ltCps c b = false → ltCps c a = false
  | [], _, [], _, _ => rfl
  | [], b, z :: c, h1, h2 => by simp [ltCps]
  | x :: a, [], _, h1, _ => by simp [ltCps] at h1
  | x :: a, y :: b, [], _, h2 => by simp [ltCps] at h2
  | x :: a, y :: b, z :: c, h1, h2 => by
    simp only [ltCps, Bool.or_eq_false_iff, decide_eq_false_iff_not, Nat.not_lt, Bool.and_eq_false_imp, beq_iff_eq] at h1 h2 ⊢
    refine ⟨by omega, fun e => ?_⟩
    have e1 : y = x := by omega
    have e2 : z = y := by omega
    exact le_tr (h1.2 e1) (h2.2 e2)
def leS (x y : Str) : Bool := !ltCps y.cps.toList x.cps.toList
theorem leS_tr {x y z : Str} (h1 : leS x y = true) (h2 : leS y z = true) : leS x z = true := by
  unfold leS at *
  simp only [Bool.not_eq_true'] at *
  exact le_tr h1 h2
theorem leS_as {x y : Str} (h1 : leS x y = true) (h2 : leS y x = true) : x = y := by
  unfold leS at *
  simp only [Bool.not_eq_true'] at *
  exact PyProof.Rows.ext_toList (lt_tri h2 h1)
theorem ltCps_as : ∀ {a b : List Nat}, ltCps a b = true → ltCps b a = false
  | [], [], h => by simp [ltCps] at h
  | [], _ :: _, _ => rfl
  | _ :: _, [], h => by simp [ltCps] at h
  | x :: r, y :: t, h => by
    simp only [ltCps, Bool.or_eq_true, decide_eq_true_eq, Bool.and_eq_true, beq_iff_eq] at h
    simp only [ltCps, Bool.or_eq_false_iff, decide_eq_false_iff_not, Nat.not_lt, Bool.and_eq_false_imp, beq_iff_eq]
    rcases h with h | ⟨e, h⟩
    · exact ⟨by omega, fun e => by omega⟩
    · exact ⟨by omega, fun _ => ltCps_as h⟩
theorem leS_tot (x y : Str) : (leS x y || leS y x) = true := by
  unfold leS
  cases h : ltCps y.cps.toList x.cps.toList with
  | false => rfl
  | true => rw [ltCps_as h]; rfl
def srtS (xs : List Str) : List Str := xs.mergeSort leS
theorem srtS_perm (xs : List Str) : (srtS xs).Perm xs := List.mergeSort_perm _ _
theorem srtS_le (xs : List Str) : (srtS xs).Pairwise fun a b => leS a b = true := List.pairwise_mergeSort (le := leS) (fun _ _ _ h1 h2 => leS_tr h1 h2) leS_tot xs
theorem sortedS_eq : ∀ {xs ys : List Str}, xs.Perm ys → (xs.Pairwise fun a b => leS a b = true) → (ys.Pairwise fun a b => leS a b = true) → xs = ys
  | [], ys, p, _, _ => (List.nil_perm.mp p).symm ▸ rfl
  | x :: xs, [], p, _, _ => (List.perm_nil.mp p)
  | x :: xs, y :: ys, p, hx, hy => by
    have rf : ∀ z : Str, leS z z = true := fun z => by unfold leS; rw [lt_irr]; rfl
    have e : x = y := by
      have m1 : x ∈ y :: ys := p.mem_iff.mp List.mem_cons_self
      have m2 : y ∈ x :: xs := p.mem_iff.mpr List.mem_cons_self
      have l1 : leS y x = true := by
        rcases List.mem_cons.mp m1 with h | h
        · rw [h]; exact rf _
        · exact (List.pairwise_cons.mp hy).1 x h
      have l2 : leS x y = true := by
        rcases List.mem_cons.mp m2 with h | h
        · rw [h]; exact rf _
        · exact (List.pairwise_cons.mp hx).1 y h
      exact leS_as l2 l1
    subst e
    rw [sortedS_eq (List.Perm.cons_inv p) (List.pairwise_cons.mp hx).2 (List.pairwise_cons.mp hy).2]
theorem rising_le : ∀ {xs : List Str} {p : Str}, risingS p xs = true → ∀ x ∈ xs, leS p x = true
  | [], _, _, _, h => by simp at h
  | y :: ys, p, h, x, hx => by
    obtain ⟨h1, h2⟩ := Bool.and_eq_true_iff.mp (show (!ltCps y.cps.toList p.cps.toList && risingS y ys) = true from h)
    rcases List.mem_cons.mp hx with e | hx
    · rw [e]; exact h1
    · exact leS_tr (y := y) h1 (rising_le h2 x hx)
theorem rising_pw : ∀ {xs : List Str} {p : Str}, risingS p xs = true → (p :: xs).Pairwise fun a b => leS a b = true
  | [], p, _ => List.pairwise_singleton _ _
  | y :: ys, p, h => by
    obtain ⟨h1, h2⟩ := Bool.and_eq_true_iff.mp (show (!ltCps y.cps.toList p.cps.toList && risingS y ys) = true from h)
    exact List.pairwise_cons.mpr ⟨rising_le h, rising_pw h2⟩
theorem srtS_uniq {xs ys : List Str} (p : ys.Perm xs) (h : sortedS ys = true) : ys = srtS xs := by
  refine sortedS_eq (p.trans (srtS_perm xs).symm) ?_ (srtS_le xs)
  cases ys with
  | nil => exact .nil
  | cons y ys => exact rising_pw h
section
variable {X : Cx} {W : Bool} {F : Fm} {Γ : Gm} {Δ : Δs} {γ : Type} {κ α : Type} [DecidableEq κ] [Ky κ]
section
variable {e a : Expr} {r : V → Hp → VK → Prop} {β : Type} {T : Option γ} {E1 : β → Pd} {Δ1 : β → Δs}
end
section
variable {a : Expr} {pos p : Pos} {β : Type} {T : Option γ} {Δ1 : β → Δs} {E1 : β → Pd} {Ee : α → Pd} {xs : β → List (κ × α)} {k : β → Option γ}
end
theorem x_dict0 {pos : Pos} {k : Unit → Option γ} (Ee : α → Pd) : PE X (.Dict [] [] pos) (tO W F Γ Δ (k ()) k (fun _ => oM (κ := κ) Ee []) fun _ => Δ) :=
  pe_dnewK.wk fun σ H Q ⟨ok, g, e, q⟩ p np => by
    obtain ⟨o2, f2⟩ := ok.newM (E := Ee) (xs := ([] : List (κ × α))) np (Nat.zero_le _) .nil
    exact q () _ _ e f2.st o2
theorem i_mkeys {tg l : Expr} {β : Type} {T : Option γ} {k : β → Option γ} {Ex : α → Pd} {xs : β → List (κ × α)} {Δ' : β → Δs} (he : PE X l (tE W F Γ Δ T k (fun b => pM Ex (xs b)) Δ')) : PI X tg l (tI W F Γ Δ T k (Ky.kp (κ := κ)) (fun b => (xs b).map Prod.fst) Δ') :=
  (pi_keys he).wk fun σ H R ⟨ok, g, e, q⟩ => ⟨ok, g, e, fun b v H' kb f ok' ⟨a, o, kvs, ev, h, z, p⟩ => ⟨a, o, ev, .inl ⟨kvs, h, q b _ H' kb f ok' (by rw [List.length_map]; exact z) fun H2 f2 i => by
    have h2 : H2 a = some (.frz o (.dK kvs)) := f2 _ _ trivial h
    rw [List.length_map]
    refine ⟨fun hi => ⟨h2, by rw [← paired_len p]; exact hi⟩, fun hi => ⟨h2, by rw [← paired_len p]; exact hi⟩, fun x v H3 hx hy => ?_⟩
    obtain ⟨e3, ky, vv, ek, ev⟩ := hy
    rw [List.getElem?_map] at hx
    cases hr : (xs b)[i]? with
    | none => rw [hr] at hx; cases hx
    | some m =>
      rw [hr] at hx
      have hx : m.1 = x := by simpa using hx
      obtain ⟨u, hu, pu, _⟩ := paired_at p hr
      rw [ek] at hu
      cases hu
      subst e3
      refine ⟨Gr.refl _, ?_⟩
      have pu : ky = Ky.ky m.1 := pu
      rw [ev, pu, hx]
      exact Ky.of _ _⟩⟩⟩
section
variable {N : Fn γ} {rest : List Stmt}
theorem s_dput {o i e : Expr} {pos pos' : Pos} {β0 β1 β2 : Type} {T : Option γ} {k0 : β0 → Option γ} {k1 : β0 → β1 → Option γ} {k : (β0 × β1) × β2 → Option γ} {Δ0 : β0 → Δs} {Δ1 : β0 → β1 → Δs} {Δ2 : β0 → β1 → β2 → Δs} {Ee : α → Pd} {y : β0 → α} {n : β0 → β1 → β2 → κ} {xs : β0 → β1 → β2 → List (κ × α)} {v : V} {prm : Option Nat} (j : Nat) (hu : X.A.units + 64 < cLine)
    (he : PE X e (tE true F Γ Δ T k0 (fun b => Ee (y b)) Δ0)) (ho : ∀ b0, PE X o (tE true F Γ (Δ0 b0) (k0 b0) (k1 b0) (fun _ => pV v) (Δ1 b0)))
    (hi : ∀ b0 b1, PE X i (tE true F Γ (Δ1 b0 b1) (k1 b0 b1) (fun b2 => grd ((xs b0 b1 b2).length < sizeLine) (k ((b0, b1), b2))) (fun b2 => Ky.kp (n b0 b1 b2)) (Δ2 b0 b1)))
    (hj : ∀ b0 b1 b2, (Δ2 b0 b1 b2)[j]? = some ⟨v, oM Ee (xs b0 b1 b2), prm⟩)
    (hr : ∀ b : (β0 × β1) × β2, PSs X rest (tS F Γ ((Δ2 b.1.1 b.1.2 b.2).set j ⟨v, oM Ee (dput (xs b.1.1 b.1.2 b.2) (n b.1.1 b.1.2 b.2) (y b.1.1)), prm⟩) N (k b)))
    (hs : swapsWith e (some (.Subscript o i pos')) pos.line X.env = pure false := by rfl) :
    PSs X (.Assign [.Subscript o i pos'] e pos :: rest) (tS F Γ Δ N T) :=
  (pss_cons (ps_dput (by omega) (pe_ex ho) (pe_ex fun b0 => pe_ex fun b1 => hi b0 b1) he hs) (pss_ex hr)).wk fun D σ H ⟨ok, g, e, f⟩ => ⟨ok, g, e, fun b0 u H0 kb0 f0 ok0 hu => ⟨b0, ok0, g, kb0, fun b1 w H1 kb1 f1 ok1 hw => ⟨b0, b1, ok1, g, kb1, fun b2 z H2 kb2 f2 ok2 hz => by
    obtain ⟨c, km⟩ := grd_some kb2
    have hw : w = v := hw
    subst hw
    have hz := Ky.is hz
    obtain ⟨G, ⟨p, vs, eG, ev, hp, zz, pr⟩, _, turn⟩ := ok2.cell (hj b0 b1 b2)
    have hu2 : (Ee (y b0)).pr H2 u := (Ee (y b0)).mono (f1.fz.trans f2.fz) hu
    have fzm : Fzs H2 (upd H2 p (.dK (putK vs (Ky.ky (n b0 b1 b2)) u))) := Fzs.mut hp fun z => z
    have eG : G = [p] := eG
    refine ⟨p, _, ev, .inl ⟨vs, Ky.ky (n b0 b1 b2), hp, hz, by rw [← paired_len pr]; exact c, rfl⟩, ((b0, b1), b2), ?_⟩
    obtain ⟨ok3, f3⟩ := turn (upd H2 p (.dK (putK vs (Ky.ky (n b0 b1 b2)) u))) (oM Ee (dput (xs b0 b1 b2) (n b0 b1 b2) (y b0))) (fun a o na e => by
      rw [upd_ne fun q => na (by show a ∈ G; rw [eG, q]; exact List.mem_singleton.mpr rfl)]
      exact e) ⟨p, _, eG, ev, upd_same, Nat.le_trans (dput_len _ _ _) c, prM_put ((Ee _).mono fzm hu2) (prM_mono fzm pr)⟩
    exact ⟨ok3, g, km, N.mono f (((f0.fz.trans f1.fz).trans f2.fz).trans f3.fz)⟩⟩⟩⟩
end
end
end L3
end
section
set_option maxHeartbeats 4000000
namespace L3
open PySem PySem.Spec PyProof.Rows L2
section
variable {κ α : Type} [DecidableEq κ] [DecidableEq α]
end
section
variable {X : Cx} {W : Bool} {F : Fm} {Γ : Gm} {Δ : Δs} {γ : Type} {κ α : Type} [DecidableEq κ] [Ky κ] [DecidableEq α]
section
variable {a b : Expr} {pos : Pos} {β1 β2 : Type} {T : Option γ} {k1 : β1 → Option γ} {k : β1 × β2 → Option γ} {Δ1 : β1 → Δs} {Δ2 : β1 → β2 → Δs} {Ee : α → Pd} {E1 : β1 → Pd} {E2 : β1 → β2 → Pd} {xs ys : β1 → β2 → List (κ × α)}
end
end
section
variable {X : Cx} {W : Bool} {F : Fm} {Γ : Gm} {Δ : Δs} {γ : Type}
section
variable {a b : Expr} {p pos : Pos} {β1 β2 : Type} {T : Option γ} {k1 : β1 → Option γ} {k : β1 × β2 → Option γ} {Δ1 : β1 → Δs} {Δ2 : β1 → β2 → Δs} {i : β1 → Int} {j : β1 → β2 → Int}
theorem x_max2 (hm : X.mg "max" = none) (ha : PE X a (tE W F Γ Δ T k1 (fun b => pInt (i b)) Δ1)) (hb : ∀ b1, PE X b (tE W F Γ (Δ1 b1) (k1 b1) (fun b2 => k (b1, b2)) (fun b => pInt (j b1 b)) (Δ2 b1))) (hg : Gl X "max" := by rfl) (hs : starEach [a, b] X.env = (false, eval a X.env) :: starEach [b] X.env := by rfl) (hs2 : starEach [b] X.env = (false, eval b X.env) :: starEach [] X.env := by rfl) (hpl : (backTo pos (starEach [b] X.env)).any (·.1) = false := by rfl) (hc : X.calm = true := by rfl) :
    PE X (.Call (.Name "max" p) [a, b] [] pos) (tE W F Γ Δ T k (fun b => pInt (max (i b.1) (j b.1 b.2))) fun b => Δ2 b.1 b.2) :=
  x2t (b_callB (call_max2 hc) hg hm (by decide +kernel) (by decide) (by decide) hs hs2 hpl) ha hb fun b1 b2 σ v w H Q ok hv hw q => ⟨i b1, j b1 b2, by rw [show v = .int (i b1) from hv, show w = .int (j b1 b2) from hw], q _ (by
    show V.int _ = V.int _
    congr 1
    dsimp only
    by_cases h : j b1 b2 > i b1
    · rw [if_pos h, Int.max_def, if_pos (by omega)]
    · rw [if_neg h, Int.max_def]; split <;> omega)⟩
theorem x_min2 (hm : X.mg "min" = none) (ha : PE X a (tE W F Γ Δ T k1 (fun b => pInt (i b)) Δ1)) (hb : ∀ b1, PE X b (tE W F Γ (Δ1 b1) (k1 b1) (fun b2 => k (b1, b2)) (fun b => pInt (j b1 b)) (Δ2 b1))) (hg : Gl X "min" := by rfl) (hs : starEach [a, b] X.env = (false, eval a X.env) :: starEach [b] X.env := by rfl) (hs2 : starEach [b] X.env = (false, eval b X.env) :: starEach [] X.env := by rfl) (hpl : (backTo pos (starEach [b] X.env)).any (·.1) = false := by rfl) (hc : X.calm = true := by rfl) :
    PE X (.Call (.Name "min" p) [a, b] [] pos) (tE W F Γ Δ T k (fun b => pInt (min (i b.1) (j b.1 b.2))) fun b => Δ2 b.1 b.2) :=
  x2t (b_callB (call_min2 hc) hg hm (by decide +kernel) (by decide) (by decide) hs hs2 hpl) ha hb fun b1 b2 σ v w H Q ok hv hw q => ⟨i b1, j b1 b2, by rw [show v = .int (i b1) from hv, show w = .int (j b1 b2) from hw], q _ (by
    show V.int _ = V.int _
    congr 1
    dsimp only
    by_cases h : j b1 b2 < i b1
    · rw [if_pos h, Int.min_def]; split <;> omega
    · rw [if_neg h, Int.min_def, if_pos (by omega)])⟩
end
section
variable {a b : Expr} {p pos : Pos} {β β1 β2 : Type} {T : Option γ} {k1 : β1 → Option γ} {Δ1 : β1 → Δs} {Δ0 : β → Δs} {Δ2 : β1 → β2 → Δs}
theorem x_ixC {k : (β1 × β2) × Nat → Option γ} {z : β1 → Str} {j : β1 → β2 → Int} (ha : PE X a (tE W F Γ Δ T k1 (fun b => pStr (z b)) Δ1)) (hb : ∀ b1, PE X b (tE W F Γ (Δ1 b1) (k1 b1) (fun b2 => grd ((z b1).length ≤ sizeLine) ((atI (z b1).cps.toList (j b1 b2)).bind fun x => k ((b1, b2), x))) (fun b => pInt (j b1 b)) (Δ2 b1))) (hs : PlainIx b := by exact fun _ _ => rfl) :
    PE X (.Subscript a b pos) (tE W F Γ Δ T k (fun b => pStr ⟨#[b.2]⟩) fun b => Δ2 b.1.1 b.1.2) :=
  x2_core (b_ix ix_str hs) ha hb fun σ H Q ⟨ok, g, e, q⟩ => ⟨ok, g, e, fun b1 b2 v w H2 kb f ok2 hv hw => by
    obtain ⟨c, kb⟩ := grd_some kb
    obtain ⟨x, ex, kx⟩ := bind_some kb
    exact ⟨z b1, j b1 b2, x, hv, hw, c, ex, q ((b1, b2), x) _ H2 kx f ok2 rfl⟩⟩
end
section
variable {o e : Expr} {apos cpos : Pos} {β1 β2 α : Type} {T : Option γ} {k1 : β1 → Option γ} {Δ1 : β1 → Δs} {Δ2 : β1 → β2 → Δs} {E1 : β1 → Pd} {Ee : α → Pd} {y : β1 → β2 → α}
end
end
end L3
end
section
set_option maxHeartbeats 4000000
namespace L3
open PySem PySem.Spec PyProof.Rows L2
section
variable {X : Cx} {W : Bool} {F : Fm} {Γ : Gm} {Δ : Δs} {γ : Type}
end
end L3
end
section
set_option maxHeartbeats 4000000
namespace L3
open PySem PySem.Spec PyProof.Rows L2
inductive OTr where
  | fz (v : Val)
  | lst (xs : List OTr)
  | tup (xs : List OTr)
  | dct (kvs : List (Key × OTr))
  | ins (c : Str) (fs : List (Str × OTr))
mutual
def er : OTr → Val
  | .fz v => v
  | .lst xs => .lst (ers xs)
  | .tup xs => .tup (ers xs)
  | .dct kvs => .dct (erd kvs)
  | .ins c fs => .ins c (erf fs)
def ers : List OTr → List Val
  | [] => []
  | x :: xs => er x :: ers xs
def erd : List (Key × OTr) → List (Key × Val)
  | [] => []
  | (k, x) :: xs => (k, er x) :: erd xs
def erf : List (Str × OTr) → List (Str × Val)
  | [] => []
  | (k, x) :: xs => (k, er x) :: erf xs
end
theorem ers_len : ∀ xs : List OTr, (ers xs).length = xs.length
  | [] => by unfold ers; rfl
  | x :: xs => by unfold ers; rw [List.length_cons, ers_len xs, List.length_cons]
theorem erd_len : ∀ xs : List (Key × OTr), (erd xs).length = xs.length
  | [] => by unfold erd; rfl
  | (k, x) :: xs => by unfold erd; rw [List.length_cons, erd_len xs, List.length_cons]
mutual
inductive ORep (mg : Mg) (H : Hp) : OTr → V → List Addr → Prop
  | fz {v : Val} {x : V} : VRep mg H v x → ORep mg H (.fz v) x []
  | lst {a : Addr} {vs : List V} {xs : List OTr} {G : List Addr} : H a = some (.lst vs) → xs.length ≤ sizeLine → OReps mg H xs vs G → ORep mg H (.lst xs) (.ref a) (a :: G)
  | tup {a : Addr} {vs : List V} {xs : List OTr} {G : List Addr} : H a = some (.tup vs) → xs.length ≤ sizeLine → OReps mg H xs vs G → ORep mg H (.tup xs) (.ref a) G
  | dct {a : Addr} {ks : List (Key × V)} {kvs : List (Key × OTr)} {G : List Addr} : H a = some (.dK ks) → kvs.length ≤ sizeLine → ORepD mg H kvs ks G → ORep mg H (.dct kvs) (.ref a) (a :: G)
  | ins {a : Addr} {C dx : Addr} {vs : List (Str × V)} {c : Str} {fs : List (Str × OTr)} {G : List Addr} : H a = some (.ins C dx vs) → mg c = some (.ref C) → ORepF mg H fs vs G → ORep mg H (.ins c fs) (.ref a) (a :: G)
inductive OReps (mg : Mg) (H : Hp) : List OTr → List V → List Addr → Prop
  | nil : OReps mg H [] [] []
  | cons {x : OTr} {v : V} {xs : List OTr} {vs : List V} {G1 G2 : List Addr} : ORep mg H x v G1 → OReps mg H xs vs G2 → OReps mg H (x :: xs) (v :: vs) (G1 ++ G2)
inductive ORepD (mg : Mg) (H : Hp) : List (Key × OTr) → List (Key × V) → List Addr → Prop
  | nil : ORepD mg H [] [] []
  | cons {k : Key} {x : OTr} {v : V} {xs : List (Key × OTr)} {vs : List (Key × V)} {G1 G2 : List Addr} : ORep mg H x v G1 → ORepD mg H xs vs G2 → ORepD mg H ((k, x) :: xs) ((k, v) :: vs) (G1 ++ G2)
inductive ORepF (mg : Mg) (H : Hp) : List (Str × OTr) → List (Str × V) → List Addr → Prop
  | nil : ORepF mg H [] [] []
  | cons {k : Str} {x : OTr} {v : V} {xs : List (Str × OTr)} {vs : List (Str × V)} {G1 G2 : List Addr} : ORep mg H x v G1 → ORepF mg H xs vs G2 → ORepF mg H ((k, x) :: xs) ((k, v) :: vs) (G1 ++ G2)
end
theorem Kp.l {G1 G2 : List Addr} {H H' : Hp} (k : Kp (G1 ++ G2) H H') : Kp G1 H H' := fun a ha => k a (List.mem_append_left _ ha)
mutual
theorem ORep.frame {mg : Mg} {H H' : Hp} (f : Fzs H H') : ∀ {x : OTr} {v : V} {G : List Addr}, ORep mg H x v G → Kp G H H' → ORep mg H' x v G
  | _, _, _, .fz h, _ => .fz (h.mono f)
  | _, _, _, .lst h z r, k => .lst (k _ List.mem_cons_self _ h) z (OReps.frame f r k.t)
  | _, _, _, .tup h z r, k => .tup (f _ _ trivial h) z (OReps.frame f r k)
  | _, _, _, .dct h z r, k => .dct (k _ List.mem_cons_self _ h) z (ORepD.frame f r k.t)
  | _, _, _, .ins h m r, k => .ins (k _ List.mem_cons_self _ h) m (ORepF.frame f r k.t)
theorem OReps.frame {mg : Mg} {H H' : Hp} (f : Fzs H H') : ∀ {x : List OTr} {v : List V} {G : List Addr}, OReps mg H x v G → Kp G H H' → OReps mg H' x v G
  | _, _, _, .nil, _ => .nil
  | _, _, _, .cons a b, k => .cons (ORep.frame f a k.l) (OReps.frame f b k.r)
theorem ORepD.frame {mg : Mg} {H H' : Hp} (f : Fzs H H') : ∀ {x : List (Key × OTr)} {v : List (Key × V)} {G : List Addr}, ORepD mg H x v G → Kp G H H' → ORepD mg H' x v G
  | _, _, _, .nil, _ => .nil
  | _, _, _, .cons a b, k => .cons (ORep.frame f a k.l) (ORepD.frame f b k.r)
theorem ORepF.frame {mg : Mg} {H H' : Hp} (f : Fzs H H') : ∀ {x : List (Str × OTr)} {v : List (Str × V)} {G : List Addr}, ORepF mg H x v G → Kp G H H' → ORepF mg H' x v G
  | _, _, _, .nil, _ => .nil
  | _, _, _, .cons a b, k => .cons (ORep.frame f a k.l) (ORepF.frame f b k.r)
end
theorem Muts.app {G1 G2 : List Addr} {H : Hp} (a : Muts G1 H) (b : Muts G2 H) : Muts (G1 ++ G2) H := fun x hx => (List.mem_append.mp hx).elim (a x) (b x)
mutual
theorem ORep.cells {mg : Mg} {H : Hp} : ∀ {x : OTr} {v : V} {G : List Addr}, ORep mg H x v G → Muts G H
  | _, _, _, .fz _ => fun _ h => absurd h List.not_mem_nil
  | _, _, _, .lst h _ r => Muts.cons h trivial (OReps.cells r)
  | _, _, _, .tup _ _ r => OReps.cells r
  | _, _, _, .dct h _ r => Muts.cons h trivial (ORepD.cells r)
  | _, _, _, .ins h _ r => Muts.cons h trivial (ORepF.cells r)
theorem OReps.cells {mg : Mg} {H : Hp} : ∀ {x : List OTr} {v : List V} {G : List Addr}, OReps mg H x v G → Muts G H
  | _, _, _, .nil => fun _ h => absurd h List.not_mem_nil
  | _, _, _, .cons a b => Muts.app (ORep.cells a) (OReps.cells b)
theorem ORepD.cells {mg : Mg} {H : Hp} : ∀ {x : List (Key × OTr)} {v : List (Key × V)} {G : List Addr}, ORepD mg H x v G → Muts G H
  | _, _, _, .nil => fun _ h => absurd h List.not_mem_nil
  | _, _, _, .cons a b => Muts.app (ORep.cells a) (ORepD.cells b)
theorem ORepF.cells {mg : Mg} {H : Hp} : ∀ {x : List (Str × OTr)} {v : List (Str × V)} {G : List Addr}, ORepF mg H x v G → Muts G H
  | _, _, _, .nil => fun _ h => absurd h List.not_mem_nil
  | _, _, _, .cons a b => Muts.app (ORep.cells a) (ORepF.cells b)
end
theorem Lkd.l {G1 G2 : List Addr} {H H' : Hp} (k : Lkd (G1 ++ G2) H H') : Lkd G1 H H' := fun a ha => k a (List.mem_append_left _ ha)
mutual
theorem ORep.lockd {mg : Mg} {H H1 : Hp} (f : Fzs H H1) : ∀ {x : OTr} {v : V} {G : List Addr}, ORep mg H x v G → Lkd G H H1 → VRep mg H1 (er x) v
  | _, _, _, .fz h, _ => by unfold er; exact h.mono f
  | _, _, _, .lst h z r, k => by
    obtain ⟨o, ho⟩ := k _ List.mem_cons_self _ h
    unfold er
    exact .lst ho (by rw [ers_len]; exact z) (OReps.lockd f r k.t)
  | _, _, _, .tup h z r, k => by
    unfold er
    exact .tup (f _ _ trivial h) (by rw [ers_len]; exact z) (OReps.lockd f r k)
  | _, _, _, .dct h z r, k => by
    obtain ⟨o, ho⟩ := k _ List.mem_cons_self _ h
    unfold er
    exact .dct ho (by rw [erd_len]; exact z) (ORepD.lockd f r k.t)
  | _, _, _, .ins h m r, k => by
    obtain ⟨o, ho⟩ := k _ List.mem_cons_self _ h
    unfold er
    exact .ins ho m (ORepF.lockd f r k.t)
theorem OReps.lockd {mg : Mg} {H H1 : Hp} (f : Fzs H H1) : ∀ {x : List OTr} {v : List V} {G : List Addr}, OReps mg H x v G → Lkd G H H1 → VReps mg H1 (ers x) v
  | _, _, _, .nil, _ => by unfold ers; exact .nil
  | _, _, _, .cons a b, k => by unfold ers; exact .cons (ORep.lockd f a k.l) (OReps.lockd f b k.r)
theorem ORepD.lockd {mg : Mg} {H H1 : Hp} (f : Fzs H H1) : ∀ {x : List (Key × OTr)} {v : List (Key × V)} {G : List Addr}, ORepD mg H x v G → Lkd G H H1 → VRepD mg H1 (erd x) v
  | _, _, _, .nil, _ => by unfold erd; exact .nil
  | _, _, _, .cons a b, k => by unfold erd; exact .cons (ORep.lockd f a k.l) (ORepD.lockd f b k.r)
theorem ORepF.lockd {mg : Mg} {H H1 : Hp} (f : Fzs H H1) : ∀ {x : List (Str × OTr)} {v : List (Str × V)} {G : List Addr}, ORepF mg H x v G → Lkd G H H1 → VRepF mg H1 (erf x) v
  | _, _, _, .nil, _ => by unfold erf; exact .nil
  | _, _, _, .cons a b, k => by unfold erf; exact .cons (ORep.lockd f a k.l) (ORepF.lockd f b k.r)
end
end L3
end
section
set_option maxHeartbeats 4000000
namespace L3
open PySem PySem.Spec PyProof.Rows L2
def strOk (x : Str) : Bool := PyData.strOk x
def dgInt : Dg pInt := dtInt.g
def dgStr : Dg pStr := ⟨.str, fun h => by rw [h]; exact .str _, 0, strOk, fun x h => h, fun _ => Nat.le_refl 0, fun x y => by show (x == y) = _; by_cases h : x = y <;> simp [h]⟩
theorem gdp_all {α : Type} {E : α → Pd} [DecidableEq α] (d : Dg E) {K : PySem.W.Frag} {H : Hp} : ∀ {xs : List α} {vs : List V}, Paired (fun x u => (E x).pr H u) xs vs → DpAll K H vs (xs.map d.toD)
  | _, _, .nil => .nil
  | _, _, .cons r t => .cons (d.dp r) (gdp_all d t)
theorem gcan_all {α : Type} {E : α → Pd} [DecidableEq α] (d : Dg E) : ∀ xs : List α, xs.all d.ok = true → PyData.canLayAll0 (xs.map d.toD) = true
  | [], _ => rfl
  | x :: xs, h => by
    rw [List.all_cons] at h
    obtain ⟨h1, h2⟩ := Bool.and_eq_true_iff.mp h
    show (PyData.canLay0 (d.toD x) && PyData.canLayAll0 (xs.map d.toD)) = true
    rw [d.can x h1, gcan_all d xs h2]; rfl
theorem gdeep_all {α : Type} {E : α → Pd} [DecidableEq α] (d : Dg E) : ∀ xs : List α, PyData.depthAll (xs.map d.toD) ≤ d.dep
  | [] => Nat.zero_le _
  | x :: xs => Nat.max_le.mpr ⟨d.deep x, gdeep_all d xs⟩
theorem geqv_all {α : Type} {E : α → Pd} [DecidableEq α] (d : Dg E) : ∀ xs ys : List α, PyData.eqvAll (xs.map d.toD) (ys.map d.toD) = decide (xs = ys)
  | [], [] => rfl
  | [], _ :: _ => rfl
  | _ :: _, [] => rfl
  | x :: xs, y :: ys => by
    show (PyData.eqv (d.toD x) (d.toD y) && PyData.eqvAll (xs.map d.toD) (ys.map d.toD)) = _
    rw [d.eq, geqv_all d xs ys]
    by_cases h : x = y <;> by_cases h2 : xs = ys <;> simp [h, h2]
def dgL {α : Type} {E : α → Pd} [DecidableEq α] (d : Dg E) : Dg (pL E) := ⟨fun xs => .list (xs.map d.toD), fun ⟨a, o, vs, e, h, z, p⟩ => by rw [e]; exact .lst (.inl (.inr ⟨o, h⟩)) (gdp_all d p), d.dep + 1, fun xs => xs.all d.ok, fun xs h => gcan_all d xs h, fun xs => Nat.succ_le_succ (gdeep_all d xs), fun xs ys => geqv_all d xs ys⟩
theorem Dg.sh {α : Type} {E : α → Pd} [DecidableEq α] (d : Dg E) (hd : d.dep < 60) {x : α} (h : d.ok x = true) : SeqAt.shaped (d.toD x) = true := by
  show (PyData.canLay0 (d.toD x) && decide (PyData.depth (d.toD x) ≤ 64)) = true
  rw [d.can x h, decide_eq_true (by have := d.deep x; omega)]; rfl
section
variable {X : Cx} {W : Bool} {F : Fm} {Γ : Gm} {Δ : Δs} {γ : Type} {a b : Expr} {pos : Pos} {β1 β2 α : Type} [DecidableEq α] {T : Option γ} {k1 : β1 → Option γ} {k : β1 × β2 → Option γ} {Δ1 : β1 → Δs} {Δ2 : β1 → β2 → Δs} {Ee : α → Pd} {x : β1 → α} {y : β1 → β2 → α}
def okG (d : Dg Ee) (x y : α) : Bool := d.ok x && d.ok y
theorem x_eqG (d : Dg Ee) (hu : X.A.units + 64 < cLine) (ha : PE X a (tE W F Γ Δ T k1 (fun b => Ee (x b)) Δ1)) (hb : ∀ b1, PE X b (tE W F Γ (Δ1 b1) (k1 b1) (fun b2 => grd (okG d (x b1) (y b1 b2) = true) (k (b1, b2))) (fun b2 => Ee (y b1 b2)) (Δ2 b1))) (hd : d.dep < 60 := by decide) :
    PE X (.Compare a [.Eq] [b] pos) (tE W F Γ Δ T k (fun b => pBl (decide (x b.1 = y b.1 b.2))) fun b => Δ2 b.1 b.2) :=
  x2g (b_cmp (op_eqD hu) (nomark _)) ha hb fun b1 b2 σ v w H Q ok c hv hw q => by
    obtain ⟨c1, c2⟩ := Bool.and_eq_true_iff.mp c
    exact ⟨_, _, d.dp hv, d.dp hw, d.sh hd c1, d.sh hd c2, by rw [d.eq]; exact q _ rfl⟩
end
section
variable {X : Cx} {W : Bool} {F : Fm} {Γ : Gm} {Δ : Δs} {γ : Type}
def rngD (lo : Int) (n : Nat) : List Int := (List.range n).map fun (i : Nat) => lo - (i : Int)
theorem rngD_len (lo : Int) (n : Nat) : (rngD lo n).length = n := by unfold rngD; rw [List.length_map, List.length_range]
theorem rngD_walk {lo : Int} {n : Nat} {H : Hp} : WalkF (Itc lo (-1) n) pInt (rngD lo n) H := fun H2 f2 i => by
  rw [rngD_len]
  refine ⟨fun h => h, fun h => h, fun x v H3 hx hy => ?_⟩
  obtain ⟨e1, e2⟩ := hy
  subst e1
  refine ⟨Gr.refl _, ?_⟩
  unfold rngD at hx
  rw [List.getElem?_map] at hx
  cases hr : (List.range n)[i]? with
  | none => rw [hr] at hx; cases hx
  | some m =>
    rw [hr] at hx
    have hi : i < n := by
      have := (List.getElem?_eq_some_iff.mp hr).1
      rwa [List.length_range] at this
    rw [List.getElem?_range hi] at hr
    cases hr
    have hx : lo - (i : Int) = x := by simpa using hx
    rw [← hx, e2, show lo + (i : Int) * (-1) = lo - (i : Int) by omega]
    rfl
theorem i_rngD {tg a b c : Expr} {p pos : Pos} {β1 β2 : Type} {T : Option γ} {k1 : β1 → Option γ} {k : β1 × β2 → Option γ} {m : β1 → Int} {n : β1 → β2 → Int} {Δ1 : β1 → Δs} {Δ2 : β1 → β2 → Δs} (hm : X.mg "range" = none) (ha : PE X a (tE W F Γ Δ T k1 (fun b => pInt (m b)) Δ1))
    (hb : ∀ b1, PE X b (tE W F Γ (Δ1 b1) (k1 b1) (fun b2 => grd (rg2 (n b1 b2) (m b1) = true) (k (b1, b2))) (fun b2 => pInt (n b1 b2)) (Δ2 b1))) (hc : PE X c (tC (.int (-1)))) (hg : Gl X "range" := by rfl)
    (hs3 : starEach [c] X.env = (false, eval c X.env) :: starEach [] X.env := by rfl) (hs2 : starEach [b, c] X.env = (false, eval b X.env) :: starEach [c] X.env := by rfl) (hs : starEach [a, b, c] X.env = (false, eval a X.env) :: starEach [b, c] X.env := by rfl) (hpl : (backTo pos (starEach [b, c] X.env)).any (·.1) = false := by rfl) : PI X tg (.Call (.Name "range" p) [a, b, c] [] pos) (tI W F Γ Δ T k pInt (fun b => rngD (m b.1) (m b.1 - n b.1 b.2).toNat) fun b => Δ2 b.1 b.2) :=
  (pi_range3 hg hm (pa_cons ha (pa_cons (pe_ex hb) (pa_cons hc pa_nil hs3) hs2) hs) hs hpl).wk fun σ H R ⟨ok, g, e, q⟩ => ⟨ok, g, e, fun b1 v1 H1 kb1 f1 ok1 hv1 => ⟨b1, ok1, g, kb1, fun b2 v2 H2 kb2 f2 ok2 hv2 => by
    obtain ⟨c, kb⟩ := grd_some kb2
    obtain ⟨c1, c⟩ := Bool.and_eq_true_iff.mp c
    obtain ⟨c2, c⟩ := Bool.and_eq_true_iff.mp c
    obtain ⟨c3, c⟩ := Bool.and_eq_true_iff.mp c
    obtain ⟨c4, c5⟩ := Bool.and_eq_true_iff.mp c
    have c5 := of_decide_eq_true c5
    have hv1 : v1 = .int (m b1) := hv1
    have hv2 : v2 = .int (n b1 b2) := hv2
    subst hv1 hv2
    exact ⟨m b1, n b1 b2, -1, _, rfl, RgC.neg (of_decide_eq_true c3) (of_decide_eq_true c4) (of_decide_eq_true c1) (of_decide_eq_true c2), q (b1, b2) _ H2 kb (f1.trans f2) ok2 (by rw [rngD_len]; have : sizeLine = 16777216 := rfl; dsimp only; omega) rngD_walk⟩⟩⟩
section
variable {a b : Expr} {pos : Pos} {β1 β2 : Type} {T : Option γ} {k1 : β1 → Option γ} {k : β1 × β2 → Option γ} {Δ1 : β1 → Δs} {Δ2 : β1 → β2 → Δs} {i : β1 → Int} {v0 : V} {xs : β1 → β2 → List Int} {prm : Option Nat}
end
end
end L3
end
section
set_option maxHeartbeats 4000000
namespace L3
open PySem PySem.Spec PyProof.Rows L2
section
variable {X : Cx} {W : Bool} {F : Fm} {Γ : Gm} {Δ : Δs} {γ : Type}
variable {α α2 β β4 β5 δ : Type} {g g2 : TG} {own : List (Str × Nat)} {vs1 : List Nat} {T : Option γ} {k0 : β → Option γ} {k : β × List δ → Option γ} {Ex : α → Pd} {Ex2 : α2 → Pd} {Ee : δ → Pd} {bd : Gm → α → Gm} {bd2 : Gm → α2 → Gm} {xs : β → List α} {C : β → Δs} {f : β → α → Option (List δ)}
    {ys : β → α → β4 → List α2} {h : β → α → β4 → α2 → Option δ} {e : β → α → β4 → α2 → β5 → δ}
theorem pe_m1 {j : Nat} {p pos : Pos} : PE X (.UnaryOp .USub (.Constant (.int 1) j p) pos) (tC (.int (-1))) := (pe_un un_neg pe_int).wk fun σ H Q q => ⟨1, rfl, q⟩
end
end L3
end
section
set_option maxHeartbeats 4000000
namespace L3
open PySem PySem.Spec PyProof.Rows L2
theorem at_split {α : Type} {x : α} : ∀ {l : List α} {m : Nat}, l[m]? = some x → ∃ A B, l = A ++ x :: B ∧ ∀ y, l.set m y = A ++ y :: B
  | [], m, h => by simp at h
  | y :: l, 0, h => by
    simp at h
    subst h
    exact ⟨[], l, rfl, fun _ => rfl⟩
  | y :: l, m + 1, h => by
    obtain ⟨A, B, e, s⟩ := at_split (l := l) (m := m) (by simpa using h)
    exact ⟨y :: A, B, by rw [e]; rfl, fun z => by rw [List.set_cons_succ, s z]; rfl⟩
theorem flat_set {gs : List (List Addr)} {m : Nat} {g g' : List Addr} (hg : gs[m]? = some g) (nd : gs.flatten.Nodup) (nd' : g'.Nodup) (ds : ∀ a ∈ g', a ∈ g ∨ a ∉ gs.flatten) : (gs.set m g').flatten.Nodup ∧ ∀ a ∈ (gs.set m g').flatten, (a ∈ gs.flatten ∧ a ∉ g) ∨ a ∈ g' := by
  obtain ⟨A, B, e, s⟩ := at_split hg
  rw [s g']
  subst e
  simp only [List.flatten_append, List.flatten_cons] at nd ds ⊢
  obtain ⟨n1, n2, n3⟩ := List.nodup_append.mp nd
  obtain ⟨n4, n5, n6⟩ := List.nodup_append.mp n2
  have dA : ∀ a ∈ A.flatten, a ∉ g' := fun a ha h => by
    rcases ds a h with h | h
    · exact n3 a ha a (List.mem_append_left _ h) rfl
    · exact h (List.mem_append_left _ ha)
  have dB : ∀ a ∈ B.flatten, a ∉ g' := fun a ha h => by
    rcases ds a h with h | h
    · exact n6 a h a ha rfl
    · exact h (List.mem_append_right _ (List.mem_append_right _ ha))
  refine ⟨List.nodup_append.mpr ⟨n1, List.nodup_append.mpr ⟨nd', n5, fun a ha b hb z => ?_⟩, fun a ha b hb z => ?_⟩, fun a ha => ?_⟩
  · subst z; exact dB a hb ha
  · subst z
    rcases List.mem_append.mp hb with h | h
    · exact dA a ha h
    · exact n3 a ha a (List.mem_append_right _ h) rfl
  · rcases List.mem_append.mp ha with h | h
    · exact .inl ⟨List.mem_append_left _ h, fun z => n3 a h a (List.mem_append_left _ z) rfl⟩
    · rcases List.mem_append.mp h with h | h
      · exact .inr h
      · exact .inl ⟨List.mem_append_right _ (List.mem_append_right _ h), fun z => n6 a z a h rfl⟩
theorem Own3.turnG {α : Type} {D : α → Od} {H H' : Hp} {y : α} {v : V} {g g' : List Addr} (f : Fzs H H') (new : (D y).pr g' H' v) : ∀ {xs : List α} {vs : List V} {gs : List (List Addr)} {m : Nat}, Own3 D H xs vs gs → gs.flatten.Nodup → (∀ a ∈ gs.flatten, a ∉ g → ∀ o, H a = some o → H' a = some o) → m < xs.length → gs[m]? = some g → Own3 D H' (xs.set m y) (vs.set m v) (gs.set m g')
  | _, _, _, _, .nil, _, _, e, _ => by simp at e
  | _, _, _, 0, .cons r t, nd, kp, e1, e2 => by
    simp at e2
    subst e2
    rw [List.flatten_cons] at nd kp
    exact .cons new (t.frame f fun a ha o e => kp a (List.mem_append_right _ ha) (fun hg => (List.nodup_append.mp nd).2.2 a hg a ha rfl) o e)
  | _, _, g0 :: gs, m + 1, .cons r t, nd, kp, e1, e2 => by
    rw [List.flatten_cons] at nd kp
    have e2' : gs[m]? = some g := by simpa using e2
    refine .cons ((D _).frame r (fun a ha o e => kp a (List.mem_append_left _ ha) (fun hg => ?_) o e) f) (Own3.turnG f new t (List.nodup_append.mp nd).2.1 (fun a ha => kp a (List.mem_append_right _ ha)) (by simpa using e1) e2')
    exact (List.nodup_append.mp nd).2.2 a ha a (List.mem_flatten.mpr ⟨g, List.mem_of_getElem? e2', hg⟩) rfl
section
variable {κ α : Type} [DecidableEq κ]
theorem dput_set {xs : List (κ × α)} {k : κ} {x y : α} {m : Nat} (nd : (xs.map Prod.fst).Nodup) (h : xs[m]? = some (k, x)) : dput xs k y = xs.set m (k, y) := by
  have hany : (xs.any fun p => decide (p.1 = k)) = true := List.any_eq_true.mpr ⟨(k, x), List.mem_of_getElem? h, by simp⟩
  unfold dput
  rw [if_pos hany]
  clear hany
  induction xs generalizing m with
  | nil => simp at h
  | cons p xs ih =>
    rw [List.map_cons, List.nodup_cons] at nd
    cases m with
    | zero =>
      simp at h
      subst h
      rw [List.map_cons, if_pos rfl, List.set_cons_zero]
      congr 1
      refine (List.map_congr_left fun q hq => ?_).trans (List.map_id _)
      rw [if_neg]
      · rfl
      · intro e
        exact nd.1 (List.mem_map.mpr ⟨q, hq, e⟩)
    | succ m =>
      have h' : xs[m]? = some (k, x) := by simpa using h
      rw [List.map_cons, List.set_cons_succ, ih nd.2 h', if_neg]
      intro e
      exact nd.1 (List.mem_map.mpr ⟨_, List.mem_of_getElem? h', e.symm⟩)
theorem dget_at {xs : List (κ × α)} {k : κ} {x : α} (h : dget xs k = some x) : ∃ m : Nat, xs[m]? = some (k, x) := by
  unfold dget at h
  cases e : xs.find? fun p => decide (p.1 = k) with
  | none => rw [e] at h; cases h
  | some p =>
    rw [e] at h
    have h : p.2 = x := Option.some.inj h
    have e1 : p.1 = k := by simpa using List.find?_some e
    obtain ⟨m, hm⟩ := List.getElem?_of_mem (List.mem_of_find?_eq_some e)
    exact ⟨m, by rw [hm, ← h, ← e1]⟩
end
section
variable {κ α : Type} [DecidableEq κ] [Ky κ]
theorem prM_of {E : α → Pd} {H : Hp} : ∀ {xs : List (κ × α)} {us : List (Key × V)}, us.map (·.1) = xs.map (fun x => Ky.ky x.1) → Paired (fun x u => (E x.2).pr H u) xs (us.map (·.2)) → Paired (PrM E H) xs us
  | [], [], _, _ => .nil
  | [], _ :: _, e, _ => by cases e
  | _ :: _, [], e, _ => by cases e
  | x :: xs, u :: us, e, .cons r t => by
    rw [List.map_cons, List.map_cons] at e
    injection e with e1 e2
    exact .cons ⟨e1, r⟩ (prM_of e2 t)
def oMO (D : α → Od) (xs : List (κ × α)) : Od where
  pr G H v := ∃ p kvs gs, G = p :: gs.flatten ∧ v = .ref p ∧ H p = some (.dK kvs) ∧ xs.length ≤ sizeLine ∧ (xs.map Prod.fst).Nodup ∧ kvs.map (·.1) = xs.map (fun x => Ky.ky x.1) ∧ Own3 (fun x : κ × α => D x.2) H xs (kvs.map (·.2)) gs
  pd := pM (fun x => (D x).pd) xs
  frame := fun {G H H' v} h k f => by
    obtain ⟨p, vs, gs, eg, ev, h, z, nd, ks, q⟩ := h
    exact ⟨p, vs, gs, eg, ev, k p (by rw [eg]; exact List.mem_cons_self) _ h, z, nd, ks, q.frame f fun a ha => k a (by rw [eg]; exact List.mem_cons_of_mem _ ha)⟩
  cells := fun ⟨p, vs, gs, eg, ev, h, z, nd, ks, q⟩ a ha => by
    rw [eg] at ha
    rcases List.mem_cons.mp ha with e | ha
    · rw [e]; exact ⟨_, h, trivial⟩
    · exact q.cells a ha
  lockd := fun {G H H1 v} ⟨p, vs, gs, eg, ev, h, z, nd, ks, q⟩ h1 h2 => by
    obtain ⟨o, ho⟩ := h2 p (by rw [eg]; exact List.mem_cons_self) _ h
    have hm : ∀ a ∈ G, ∃ o, H a = some o ∧ Mut (some o) := fun a ha => by
      rw [eg] at ha
      rcases List.mem_cons.mp ha with e | ha
      · rw [e]; exact ⟨_, h, trivial⟩
      · exact q.cells a ha
    exact ⟨p, o, vs, ev, ho, z, prM_of ks (q.lockd (D := fun x : κ × α => D x.2) h1 h2 hm fun a ha => by rw [eg]; exact List.mem_cons_of_mem _ ha)⟩
theorem valV_at {us : List (Key × V)} {k : Key} {v : V} {m : Nat} (nd : (us.map (·.1)).Nodup) (h : us[m]? = some (k, v)) : valV us k = some v := by
  induction us generalizing m with
  | nil => simp at h
  | cons p us ih =>
    rw [List.map_cons, List.nodup_cons] at nd
    cases m with
    | zero =>
      simp at h
      subst h
      exact valV_pos rfl
    | succ m =>
      have h' : us[m]? = some (k, v) := by simpa using h
      rw [valV_neg (fun e => nd.1 (List.mem_map.mpr ⟨_, List.mem_of_getElem? h', e.symm⟩))]
      exact ih nd.2 h'
end
theorem nodup_mapI {β δ : Type} {f : β → δ} (hf : ∀ a b, f a = f b → a = b) {l : List β} (nd : l.Nodup) : (l.map f).Nodup := List.Pairwise.map f (fun a b h e => h (hf a b e)) nd
theorem set_self' {β : Type} {x : β} : ∀ {l : List β} {m : Nat}, l[m]? = some x → l.set m x = l
  | [], _, h => by simp at h
  | y :: l, 0, h => by simp at h; subst h; rfl
  | y :: l, m + 1, h => by rw [List.set_cons_succ, set_self' (by simpa using h)]
def Foc {α : Type} (d : Od) (v : V) (D : α → Od) (x : α) (back : α → Od) (u : V) (H : Hp) : Prop :=
  ∀ H1 G, Gr H H1 → d.pr G H1 v → G.Nodup → ∃ G2, (D x).pr G2 H1 u ∧ (∀ a ∈ G2, a ∈ G) ∧ G2.Nodup ∧
    ∀ H' y G2', (∀ a ∈ G, a ∉ G2 → ∀ o, H1 a = some o → H' a = some o) → Fzs H1 H' → G2'.Nodup → (∀ a ∈ G2', a ∈ G2 ∨ a ∉ G) → (D y).pr G2' H' u →
      ∃ G', (back y).pr G' H' v ∧ G'.Nodup ∧ ∀ a ∈ G', (a ∈ G ∧ a ∉ G2) ∨ a ∈ G2'
theorem Foc.gr {α : Type} {d : Od} {v : V} {D : α → Od} {x : α} {back : α → Od} {u : V} {H H2 : Hp} (f : Foc d v D x back u H) (g : Gr H H2) : Foc d v D x back u H2 := fun H1 G g1 => f H1 G (g.trans g1)
theorem Foc.id {α : Type} {v : V} {D : α → Od} {x : α} {H : Hp} : Foc (D x) v D x D v H := fun H1 G _ h nd => ⟨G, h, fun _ h => h, nd, fun H' y G2' _ _ nd' _ h' => ⟨G2', h', nd', fun a ha => .inr ha⟩⟩
section
variable {X : Cx} {W : Bool} {F : Fm} {Γ : Gm} {Δ : Δs} {γ : Type}
theorem Foc.key {κ α : Type} [DecidableEq κ] [Ky κ] {d : Od} {v : V} {D : α → Od} {xs : List (κ × α)} {back : List (κ × α) → Od} {u : V} {H : Hp} {n : κ} {x : α} {p : Addr} {kvs : List (Key × V)} {w : V} (f : Foc d v (oMO D) xs back u H) (hu : u = .ref p) (hp : H p = some (.dK kvs)) (hx : dget xs n = some x) (hw : valV kvs (Ky.ky n) = some w) : Foc d v D x (fun y => back (dput xs n y)) w H := fun H1 G g1 hd nd => by
  obtain ⟨G2, ⟨p', kvs', gs, eg, eu, hp', z, ndk, ks, o3⟩, sb, nd2, tr⟩ := f H1 G g1 hd nd
  have eg : G2 = p' :: gs.flatten := eg
  have eu : u = .ref p' := eu
  rw [hu] at eu
  cases eu
  rw [g1 _ _ hp] at hp'
  cases hp'
  subst eg
  obtain ⟨m, hm⟩ := dget_at hx
  obtain ⟨w', g, hvw, hg, pw⟩ := o3.at hm
  have pw : (D x).pr g H1 w' := pw
  have ndkv : (kvs.map (·.1)).Nodup := by
    rw [ks]
    have e : xs.map (fun x => Ky.ky x.1) = (xs.map Prod.fst).map Ky.ky := by rw [List.map_map]; rfl
    rw [e]
    exact nodup_mapI (fun a b e => Ky.inj e) ndk
  have hkv : kvs[m]? = some (Ky.ky n, w') := by
    have h1 : (kvs.map (·.1))[m]? = some (Ky.ky n) := by rw [ks, List.getElem?_map, hm]; rfl
    rw [List.getElem?_map] at h1 hvw
    cases hk : kvs[m]? with
    | none => rw [hk] at h1; cases h1
    | some q =>
      rw [hk] at h1 hvw
      have h1 : q.1 = Ky.ky n := Option.some.inj h1
      have h2 : q.2 = w' := Option.some.inj hvw
      rw [← h1, ← h2]
  have ew : w' = w := by
    have := valV_at ndkv hkv
    rw [hw] at this
    exact (Option.some.inj this).symm
  subst ew
  obtain ⟨pG, ndG⟩ := List.nodup_cons.mp nd2
  have sg : ∀ a ∈ g, a ∈ gs.flatten := fun a ha => List.mem_flatten.mpr ⟨g, List.mem_of_getElem? hg, ha⟩
  have ndg : g.Nodup := by
    obtain ⟨A, B, e, _⟩ := at_split hg
    rw [e, List.flatten_append, List.flatten_cons] at ndG
    exact (List.nodup_append.mp (List.nodup_append.mp ndG).2.1).1
  refine ⟨g, pw, fun a ha => sb a (List.mem_cons_of_mem _ (sg a ha)), ndg, fun H' y G3 kp fz nd3 ds h3 => ?_⟩
  have hml : m < xs.length := (List.getElem?_eq_some_iff.mp hm).1
  have nin : ∀ a ∈ G3, a ∈ g ∨ a ∉ gs.flatten := fun a ha => (ds a ha).imp (fun h => h) fun h z => h (sb a (List.mem_cons_of_mem _ z))
  obtain ⟨fs1, fs2⟩ := flat_set hg ndG nd3 nin
  have pg : p ∉ g := fun z => pG (sg p z)
  have pn : p ∉ G3 := fun z => (ds p z).elim pg fun h => h (sb p List.mem_cons_self)
  have vset : (kvs.map (·.2)).set m w' = kvs.map (·.2) := set_self' hvw
  obtain ⟨G', hb, nb, mb⟩ := tr H' (dput xs n y) (p :: (gs.set m G3).flatten) (fun a ha na o e => kp a ha (fun z => na (List.mem_cons_of_mem _ (sg a z))) o e) fz (List.nodup_cons.mpr ⟨fun z => (fs2 p z).elim (fun h => pG h.1) pn, fs1⟩) (fun a ha => by
      rcases List.mem_cons.mp ha with e | ha
      · exact .inl (by rw [e]; exact List.mem_cons_self)
      · rcases fs2 a ha with h | h
        · exact .inl (List.mem_cons_of_mem _ h.1)
        · exact (ds a h).imp (fun z => List.mem_cons_of_mem _ (sg a z)) fun h => h) ⟨p, kvs, gs.set m G3, rfl, hu, kp p (sb p List.mem_cons_self) pg _ (g1 _ _ hp), by rw [dput_set ndk hm, List.length_set]; exact z, by
        rw [dput_set ndk hm, List.map_set, set_self' (by rw [List.getElem?_map, hm]; rfl)]; exact ndk, by
        rw [dput_set ndk hm, List.map_set, set_self' (by rw [List.getElem?_map, hm]; rfl)]; exact ks, by
        rw [dput_set ndk hm, ← vset]
        exact o3.turnG (y := (n, y)) fz h3 ndG (fun a ha na o e => kp a (sb a (List.mem_cons_of_mem _ ha)) na o e) hml hg⟩
  refine ⟨G', hb, nb, fun a ha => ?_⟩
  rcases mb a ha with ⟨h1, h2⟩ | h
  · exact .inl ⟨h1, fun z => h2 (List.mem_cons_of_mem _ (sg a z))⟩
  · rcases List.mem_cons.mp h with e | h
    · exact .inl ⟨by rw [e]; exact sb p List.mem_cons_self, by rw [e]; exact pg⟩
    · rcases fs2 a h with ⟨h1, h2⟩ | h
      · exact .inl ⟨sb a (List.mem_cons_of_mem _ h1), h2⟩
      · exact .inr h
end
end L3
end
section
set_option maxHeartbeats 4000000
namespace L3
open PySem PySem.Spec PyProof.Rows L2
section
variable {X : Cx} {W : Bool} {F : Fm} {Γ : Gm} {Δ : Δs} {γ : Type}
section
variable {o i e : Expr} {pos : Pos} {β1 β2 α : Type} {T : Option γ} {k1 : β1 → Option γ} {v : V} {d : Od} {D : α → Od} {prm : Option Nat}
end
section
variable {o e : Expr} {apos cpos : Pos} {β1 β2 α : Type} {T : Option γ} {k1 : β1 → Option γ} {k : β1 × β2 → Option γ} {v : V} {d : Od} {prm : Option Nat} {xs : β1 → List α} {back : β1 → List α → Od} {y : β1 → β2 → α}
end
theorem dput_new {κ α : Type} [DecidableEq κ] {xs : List (κ × α)} {k : κ} {y : α} (h : dhas xs k = false) : dput xs k y = xs ++ [(k, y)] := by
  unfold dput
  rw [if_neg]
  intro z
  unfold dhas at h
  rw [h] at z
  cases z
theorem dhas_not {κ α : Type} [DecidableEq κ] {xs : List (κ × α)} {k : κ} (h : dhas xs k = false) : k ∉ xs.map Prod.fst := fun z => by
  obtain ⟨p, hp, e⟩ := List.mem_map.mp z
  unfold dhas at h
  have := List.any_eq_false.mp h p hp
  simp [e] at this
section
variable {N : Fn γ} {rest : List Stmt} {κ : Type} [DecidableEq κ] [Ky κ]
end
end
end L3
end
section
set_option maxHeartbeats 4000000
namespace L3
open PySem PySem.Spec PyProof.Rows L2
section
variable {X : Cx} {W : Bool} {F : Fm} {Γ : Gm} {Δ : Δs} {γ : Type}
section
variable {κ δ : Type} [DecidableEq κ] [Ky κ]
variable {α β β2 β3 : Type} {g : TG} {own : List (Str × Nat)} {T : Option γ} {k : β × List (κ × δ) → Option γ} {Ex : α → Pd} {D : δ → Od} {bd : Gm → α → Gm} {xs : β → List α} {Δ1 : β → Δs} {f : β → α → Option (κ × δ)} {T2 : β → α → β2 → Option (κ × δ)} {ky : β → α → β2 → κ} {y : β → α → β2 → β3 → δ}
end
end
end L3
end
section
set_option maxHeartbeats 4000000
namespace PySem.SeqAt
open AutoSeq1 (wpAny_loadPart')
open MeetsSeq MeetsSeq2 MeetsSeq3 SeqRoads2
section
variable {prog : Program} {w : World}
theorem l3_ne_loopIn (l b : Addr) (items items2 : Array Value) (n n2 : Nat) (dd dd2 : Option Addr) (sl sl2 : Array (Option Value)) (hsz : items.size = items2.size) (e : Nat → Bool) (k : Nat) :
    ∀ i : Nat, items.size - i = k → MeetsIn prog w (Builtin.«list.__eq__.loop» ⟨[.ref l, .ref b, rawInt i, rawInt 3], []⟩)
      (fun A R s => s.heap.get? l = some { cls := .type "list", dict := dd, data := .seq items n, slots := sl } ∧ s.heap.get? b = some { cls := .type "list", dict := dd2, data := .seq items2 n2, slots := sl2 } ∧
        (∀ j (h1 : j < items.size) (h2 : j < items2.size), EqP prog w A.in1 s items[j] items2[j] (e j)) ∧
        R (.ok (.ret (.bool (!((List.range items.size).drop i).all e)))) s) := by
  induction k with
  | zero =>
    intro i hk A R s h
    obtain ⟨hp, g, d, tk, os⟩ := s; obtain ⟨hl, hb, he, h⟩ := h
    wp_walk using wpAny_loadPart' hl, wpAny_loadPart' hb
    have hi1 : items[((i : Nat) : Int).toNat]? = none := by simp; omega
    have hi2 : items2[((i : Nat) : Int).toNat]? = none := by simp; omega
    have hd : (List.range items.size).drop i = [] := by simp; omega
    rw [hd] at h
    rw [hi1, hi2]
    wp_walk using wpAny_loadPart' hl, wpAny_loadPart' hb
    show R (.ok (.ret (.bool (items.size != items2.size)))) _
    rw [hsz]
    simpa using h
  | succ k ih =>
    intro i hk A R s h
    obtain ⟨hp, g, d, tk, os⟩ := s; obtain ⟨hl, hb, he, h⟩ := h
    wp_walk using wpAny_loadPart' hl, wpAny_loadPart' hb
    have hlt : i < items.size := by omega
    have hlt2 : i < items2.size := by omega
    have hi1 : items[((i : Nat) : Int).toNat]? = some items[i] := by simp [hlt]
    have hi2 : items2[((i : Nat) : Int).toNat]? = some items2[i] := by simp [hlt2]
    have hd : (List.range items.size).drop i = i :: (List.range items.size).drop (i + 1) := by simp [List.drop_eq_getElem_cons, hlt]
    have hc : ((i : Int) + 1) = ((i + 1 : Nat) : Int) := by push_cast; rfl
    rw [hd, List.all_cons] at h
    rw [hi1, hi2]
    refine wpAny_bind (he i hlt hlt2 _ _ ?_)
    cases hb' : e i with
    | true =>
      rw [hb'] at h
      wp_walk
      rw [hc]
      exact ⟨plainId_quiet plain_eq_loop _, codeAny_builtin entry_eq_loop (by
        rw [Around.under_plainId plain_eq_loop _]
        exact ih (i + 1) (by omega) A R _ ⟨hl, hb, he, by simpa using h⟩)⟩
    | false =>
      rw [hb'] at h
      wp_walk using wpAny_loadPart' hl, wpAny_loadPart' hb
      rw [hi1, hi2]
      wp_walk
      simpa using h
theorem l3_list_neIn (l b : Addr) (items items2 : Array Value) (n n2 : Nat) (dd dd2 : Option Addr) (sl sl2 : Array (Option Value)) (hsz : items.size = items2.size) (e : Nat → Bool) :
    MeetsIn prog w (Builtin.«list.__ne__» ⟨[.ref l, .ref b], []⟩)
      (fun A R s => s.heap.get? l = some { cls := .type "list", dict := dd, data := .seq items n, slots := sl } ∧ s.heap.get? b = some { cls := .type "list", dict := dd2, data := .seq items2 n2, slots := sl2 } ∧
        (∀ j (h1 : j < items.size) (h2 : j < items2.size), EqP prog w A.in1 s items[j] items2[j] (e j)) ∧
        R (.ok (.ret (.bool (!(List.range items.size).all e)))) s) := by
  intro A R s h
  obtain ⟨hp, g, d, tk, os⟩ := s; obtain ⟨hl, hb, he, h⟩ := h
  have f3 := AutoSeq1.sub_list_list
  have hne : ¬ (items.size != items2.size) = true := by simp [hsz]
  wp_walk using wpAny_loadPart' hl, wpAny_loadPart' hb
  exact ⟨plainId_quiet plain_eq_loop _, codeAny_builtin entry_eq_loop (by
    rw [Around.under_plainId plain_eq_loop _]
    exact l3_ne_loopIn l b items items2 n n2 dd dd2 sl sl2 hsz e _ 0 rfl A R _ ⟨hl, hb, he, by simpa using h⟩)⟩
theorem l3_ne_lists {A : Around} {s : Shared} {l b : Addr} {items items2 : Array Value} {e : Nat → Bool} (hl : s.heap.IsList l items) (hb : s.heap.IsList b items2) (hsz : items.size = items2.size) (hu : A.units < cLine)
    (he : ∀ j (h1 : j < items.size) (h2 : j < items2.size), EqP prog w A.in1 s items[j] items2[j] (e j)) (E Q : Value → Shared → Prop) (h : Q (.bool (!(List.range items.size).all e)) s) : wpAny (model prog w) A (richCompare .NotEq (.ref l) (.ref b)) Q E s := by
  obtain ⟨⟨cls, dd, data, sl⟩, ho, hc, n, hd⟩ := id hl
  obtain ⟨⟨cls2, dd2, data2, sl2⟩, ho2, hc2, n2, hd2⟩ := id hb
  simp only at hc hd hc2 hd2
  subst hc hd hc2 hd2
  have ta : s.TypeIs (.ref l) "list" := ⟨_, ho, rfl⟩
  have tb : s.TypeIs (.ref b) "list" := ⟨_, ho2, rfl⟩
  exact wpAny_richCompare_same_room (op := .NotEq) ta tb F.slot_list_ne (call_meetsIn F.slot_list_ne ta F.entry_list_ne (F.args_list_ne_2 _ _) (l3_list_neIn l b items items2 n n2 dd dd2 sl sl2 hsz e)
    ⟨ho, ho2, he, show Value.bool (!(List.range items.size).all e) ≠ Value.notImplemented ∧ Q (.bool (!(List.range items.size).all e)) s from ⟨(fun x => nomatch x), h⟩⟩) hu
end
end PySem.SeqAt
end
section
set_option maxHeartbeats 4000000
namespace L3
open PySem PySem.Spec PyProof.Rows L2
structure De {α : Type} (E : α → Pd) where
  dep : Nat
  ok : α → α → Bool
  eqv : α → α → Bool
  rc : ∀ {X : Cx} {pins : List (Addr × Obj)} {σ : SS} {H : Hp} {s : Shared}, Inv X pins σ H s → ∀ A : Around, A.units + dep < cLine → ∀ x y, ok x y = true → ∀ v u v' u', (E x).pr H v → (E y).pr H u → RelV v v' → RelV u u' → SeqAt.EqP X.prog X.w A.in1 s v' u' (eqv x y)
  same : ∀ (H : Hp) x y v, ok x y = true → (E x).pr H v → (E y).pr H v → eqv x y = true
def Inj {α : Type} (E : α → Pd) : Prop := ∀ (H : Hp) x y v, (E x).pr H v → (E y).pr H v → x = y
theorem injInt : Inj pInt := fun H x y v h1 h2 => by
  have h1 : v = .int x := h1
  have h2 : v = .int y := h2
  rw [h1] at h2; cases h2; rfl
theorem injStr : Inj pStr := fun H x y v h1 h2 => by
  have h1 : v = .str x := h1
  have h2 : v = .str y := h2
  rw [h1] at h2; cases h2; rfl
theorem inj_paired {α : Type} {E : α → Pd} (i : Inj E) {H : Hp} : ∀ {xs ys : List α} {vs : List V}, Paired (fun x u => (E x).pr H u) xs vs → Paired (fun x u => (E x).pr H u) ys vs → xs = ys
  | _, _, _, .nil, .nil => rfl
  | _, _, _, .cons a b, .cons c d => by rw [i _ _ _ _ a c, inj_paired i b d]
theorem injL {α : Type} {E : α → Pd} (i : Inj E) : Inj (pL E) := fun H x y v h1 h2 => by
  obtain ⟨a, o, vs, e, h, _, p⟩ := h1
  obtain ⟨a', o', vs', e', h', _, p'⟩ := h2
  rw [e] at e'
  cases e'
  rw [h] at h'
  cases h'
  exact inj_paired i p p'
def deG {α : Type} {E : α → Pd} [DecidableEq α] (d : Dg E) (i : Inj E) (hd : d.dep < 60 := by decide) : De E where
  dep := 65
  ok x y := okG d x y
  eqv x y := decide (x = y)
  rc I A hu x y h v u v' u' hv hw rv ru := by
    obtain ⟨c1, c2⟩ := Bool.and_eq_true_iff.mp h
    obtain ⟨as, r1⟩ := Dp.reads I (d.toD x) v v' (d.dp hv) rv
    obtain ⟨bs, r2⟩ := Dp.reads I (d.toD y) u u' (d.dp hw) ru
    have eq := PySem.W.keq_at (A := A) r1 r2 (d.sh hd c1) (d.sh hd c2) (by show A.units + 1 + 64 < cLine; omega)
    rw [d.eq] at eq
    exact eq.eqP
  same H x y v _ h1 h2 := decide_eq_true (i H x y v h1 h2)
section
variable {κ α : Type} [DecidableEq κ] [Ky κ]
def deqG (f : α → α → Bool) (xs ys : List (κ × α)) : Bool := xs.length == ys.length && xs.all fun p => match dget ys p.1 with | none => false | some y => f p.2 y
def dokG (f : α → α → Bool) (xs ys : List (κ × α)) : Bool := decide (xs.map Prod.fst).Nodup && xs.all fun p => match dget ys p.1 with | none => true | some y => f p.2 y
theorem deM_hits {E : α → Pd} (d : De E) {X : Cx} {pins : List (Addr × Obj)} {σ : SS} {H : Hp} {s : Shared} (I : Inv X pins σ H s) {A : Around} (hu : A.units + d.dep < cLine) {ys : List (κ × α)} {ls : List (Key × V)} {vb : List (Key × Value)} (py : Paired (PrM E H) ys ls) (rb : KV ls vb) :
    ∀ {xs : List (κ × α)} {ks : List (Key × V)} {va : List (Key × Value)}, (xs.all fun p => match dget ys p.1 with | none => true | some y => d.ok p.2 y) = true → Paired (PrM E H) xs ks → KV ks va → PySem.W.KeqHitsP X.prog X.w A.in1 s vb va (xs.all fun p => match dget ys p.1 with | none => false | some y => d.eqv p.2 y)
  | [], [], [], _, .nil, .nil => .nil
  | x :: xs, k :: ks, (key, v) :: va, hk, .cons r t, .cons q u => by
    rw [List.all_cons] at hk
    obtain ⟨hk1, hk2⟩ := Bool.and_eq_true_iff.mp hk
    have ih := deM_hits d I hu py rb hk2 t u
    have ek : k.1 = key := q.1
    rw [List.all_cons]
    have rr : RelO (valV ls k.1) (valueAt vb k.1) := rb.val k.1
    rw [r.1] at rr
    rcases prM_get x.1 py with ⟨e0, e1⟩ | ⟨y, w, e0, e1, hw⟩
    · rw [e0]
      rw [Bool.false_and]
      rw [e1] at rr
      refine .miss ?_
      rw [← ek, r.1]
      cases hv : valueAt vb (Ky.ky x.1) with
      | none => rfl
      | some z => rw [hv] at rr; exact rr.elim
    · rw [e1] at rr
      obtain ⟨z, hz, rz⟩ := rr.some_of
      have key_eq : valueAt vb key = some z := by rw [← ek, r.1]; exact hz
      rw [e0] at hk1 ⊢
      exact .hit key_eq (d.rc I A hu x.2 y hk1 k.2 w v z r.2 hw q.2 rz) ih
theorem prM_same {E : α → Pd} (d : De E) {H : Hp} {ys0 : List (κ × α)} : ∀ {xs ys : List (κ × α)} {us : List (Key × V)}, (xs.all fun p => match dget ys0 p.1 with | none => true | some y => d.ok p.2 y) = true → (∀ p ∈ ys, dget ys0 p.1 = some p.2) → Paired (PrM E H) xs us → Paired (PrM E H) ys us → (xs.all fun p => match dget ys0 p.1 with | none => false | some y => d.eqv p.2 y) = true
  | _, _, _, _, _, .nil, .nil => rfl
  | x :: _, y :: _, _, hk, hy, .cons a b, .cons c e => by
    rw [List.all_cons] at hk ⊢
    obtain ⟨hk1, hk2⟩ := Bool.and_eq_true_iff.mp hk
    have e1 : y.1 = x.1 := Ky.inj (by rw [← a.1, ← c.1])
    have e2 := hy y List.mem_cons_self
    rw [e1] at e2
    rw [e2] at hk1 ⊢
    rw [prM_same d hk2 (fun p hp => hy p (List.mem_cons_of_mem _ hp)) b e, Bool.and_true]
    exact d.same H x.2 y.2 _ hk1 a.2 c.2
theorem prM_keysEq {E : α → Pd} {H : Hp} : ∀ {xs ys : List (κ × α)} {us : List (Key × V)}, Paired (PrM E H) xs us → Paired (PrM E H) ys us → xs.map Prod.fst = ys.map Prod.fst
  | _, _, _, .nil, .nil => rfl
  | _, _, _, .cons a b, .cons c e => by rw [List.map_cons, List.map_cons, prM_keysEq b e, Ky.inj (a.1.symm.trans c.1)]
theorem dget_nd {xs : List (κ × α)} (nd : (xs.map Prod.fst).Nodup) : ∀ p ∈ xs, dget xs p.1 = some p.2 := by
  induction xs with
  | nil => intro p h; cases h
  | cons q xs ih =>
    rw [List.map_cons, List.nodup_cons] at nd
    intro p hp
    rcases List.mem_cons.mp hp with e | hp
    · rw [e]; exact dget_pos rfl
    · rw [dget_neg (fun e => nd.1 (List.mem_map.mpr ⟨p, hp, e.symm⟩))]
      exact ih nd.2 p hp
def deM {E : α → Pd} (d : De E) : De (pM (κ := κ) E) where
  dep := d.dep + 1
  ok := dokG d.ok
  eqv := deqG d.eqv
  rc {X pins σ H s} I A hu xs ys h v u v' u' hv hw rv ru := by
    obtain ⟨c1, c2⟩ := Bool.and_eq_true_iff.mp h
    obtain ⟨a, o, ks, rfl, ra, za, pa⟩ := hv
    obtain ⟨b, o', ls, rfl, rb, zb, pb⟩ := hw
    obtain rfl : v' = Value.ref a := rv
    obtain rfl : u' = Value.ref b := ru
    by_cases e : a = b
    · subst e
      rw [ra] at rb
      cases rb
      have ek := prM_keysEq pa pb
      have nd : (ys.map Prod.fst).Nodup := by rw [← ek]; exact of_decide_eq_true c1
      have e1 : deqG d.eqv xs ys = true := by
        unfold deqG
        rw [prM_same d c2 (dget_nd nd) pa pb, Bool.and_true, beq_iff_eq, paired_len pa, paired_len pb]
      rw [e1]
      exact (SeqAt.EqAt.same _).eqP
    · obtain ⟨_, ya, va, rva, da⟩ := dk_rd I.hok (.inr ⟨o, ra⟩)
      obtain ⟨_, yb, vb, rvb, db⟩ := dk_rd I.hok (.inr ⟨o', rb⟩)
      refine SeqAt.eqP_refs e fun E Q q => PySem.W.rcP_dicts (knd := mixKind X.prog X.w) ya yb da db (by show A.units + 1 < cLine; omega) (fun _ => deM_hits d I (A := A.in1) (by show A.units + 1 + d.dep < cLine; omega) pb rvb c2 pa rva) E Q ?_
      rw [← rva.length, ← rvb.length, ← paired_len pa, ← paired_len pb]
      exact q
  same H xs ys v h hv hw := by
    obtain ⟨c1, c2⟩ := Bool.and_eq_true_iff.mp h
    obtain ⟨a, o, ks, rfl, ra, za, pa⟩ := hv
    obtain ⟨b, o', ls, e, rb, zb, pb⟩ := hw
    cases e
    rw [ra] at rb
    cases rb
    have ek := prM_keysEq pa pb
    have nd : (ys.map Prod.fst).Nodup := by rw [← ek]; exact of_decide_eq_true c1
    unfold deqG
    rw [prM_same d c2 (dget_nd nd) pa pb, Bool.and_true, beq_iff_eq, paired_len pa, paired_len pb]
end
section
variable {α : Type}
def lokG (f : α → α → Bool) : List α → List α → Bool
  | [], [] => true
  | x :: xs, y :: ys => f x y && lokG f xs ys
  | _, _ => false
def leqG (f : α → α → Bool) : List α → List α → Bool
  | [], [] => true
  | x :: xs, y :: ys => f x y && leqG f xs ys
  | _, _ => false
theorem lokG_len {f : α → α → Bool} : ∀ {xs ys : List α}, lokG f xs ys = true → xs.length = ys.length
  | [], [], _ => rfl
  | [], _ :: _, h => by cases h
  | _ :: _, [], h => by cases h
  | x :: xs, y :: ys, h => congrArg (· + 1) (lokG_len (Bool.and_eq_true_iff.mp h).2)
theorem leqG_all {f : α → α → Bool} : ∀ {xs ys : List α} (e : Nat → Bool), xs.length = ys.length → (∀ j x y, xs[j]? = some x → ys[j]? = some y → e j = f x y) → (List.range xs.length).all e = leqG f xs ys
  | [], [], e, _, _ => rfl
  | [], _ :: _, _, h, _ => by cases h
  | _ :: _, [], _, h, _ => by cases h
  | x :: xs, y :: ys, e, h, k => by
    rw [List.length_cons, List.range_succ_eq_map, List.all_cons, List.all_map, k 0 x y rfl rfl]
    show (f x y && _) = (f x y && leqG f xs ys)
    rw [← leqG_all (xs := xs) (ys := ys) (e ∘ Nat.succ) (by simpa using h) fun j a b ha hb => k (j + 1) a b (by simpa using ha) (by simpa using hb)]
def eAt (f : α → α → Bool) (xs ys : List α) (j : Nat) : Bool := match xs[j]?, ys[j]? with | some x, some y => f x y | _, _ => true
theorem deL_items {E : α → Pd} (d : De E) {X : Cx} {pins : List (Addr × Obj)} {σ : SS} {H : Hp} {s : Shared} (I : Inv X pins σ H s) {A : Around} (hu : A.units + d.dep < cLine) : ∀ {xs ys : List α} {vs us : List V} {vs' us' : List Value}, lokG d.ok xs ys = true → Paired (fun x u => (E x).pr H u) xs vs → Paired (fun x u => (E x).pr H u) ys us → Vals vs vs' → Vals us us' → ∀ j (h1 : j < vs'.length) (h2 : j < us'.length), SeqAt.EqP X.prog X.w A.in1 s vs'[j] us'[j] (eAt d.eqv xs ys j)
  | [], [], [], [], [], _, _, .nil, .nil, .nil, _, j, h1, _ => absurd h1 (Nat.not_lt_zero j)
  | x :: xs, y :: ys, v :: vs, u :: us, v' :: vs', u' :: us', hk, .cons a b, .cons c e, .cons r t, .cons r' t', j, h1, h2 => by
    obtain ⟨hk1, hk2⟩ := Bool.and_eq_true_iff.mp hk
    cases j with
    | zero => exact d.rc I A hu x y hk1 v u v' u' a c r r'
    | succ j => exact deL_items d I hu hk2 b e t t' j (Nat.lt_of_succ_lt_succ h1) (Nat.lt_of_succ_lt_succ h2)
theorem deL_same {E : α → Pd} (d : De E) {H : Hp} : ∀ {xs ys : List α} {us : List V}, lokG d.ok xs ys = true → Paired (fun x u => (E x).pr H u) xs us → Paired (fun x u => (E x).pr H u) ys us → leqG d.eqv xs ys = true
  | _, _, _, _, .nil, .nil => rfl
  | _, _, _, hk, .cons a b, .cons c e => by
    obtain ⟨hk1, hk2⟩ := Bool.and_eq_true_iff.mp hk
    exact Bool.and_eq_true_iff.mpr ⟨d.same H _ _ _ hk1 a c, deL_same d hk2 b e⟩
theorem eAt_all {f : α → α → Bool} {xs ys : List α} (h : xs.length = ys.length) : (List.range xs.length).all (eAt f xs ys) = leqG f xs ys := leqG_all _ h fun j x y hx hy => by unfold eAt; rw [hx, hy]
def deL {E : α → Pd} (d : De E) : De (pL E) where
  dep := d.dep + 1
  ok := lokG d.ok
  eqv := leqG d.eqv
  rc {X pins σ H s} I A hu xs ys h v u v' u' hv hw rv ru := by
    obtain ⟨a, o, ks, rfl, ra, za, pa⟩ := hv
    obtain ⟨b, o', ls, rfl, rb, zb, pb⟩ := hw
    obtain rfl : v' = Value.ref a := rv
    obtain rfl : u' = Value.ref b := ru
    by_cases e : a = b
    · subst e
      rw [ra] at rb
      cases rb
      rw [deL_same d h pa pb]
      exact (SeqAt.EqAt.same _).eqP
    · obtain ⟨us, r1, p1, _⟩ := I.list (xs := ks) (.inl (.inr ⟨o, ra⟩))
      obtain ⟨ws, r2, p2, _⟩ := I.list (xs := ls) (.inl (.inr ⟨o', rb⟩))
      have l1 : us.length = xs.length := by rw [← r1.length, paired_len pa]
      have l2 : ws.length = ys.length := by rw [← r2.length, paired_len pb]
      have hl := lokG_len h
      refine SeqAt.eqP_refs e fun E Q q => SeqAt.rcP_lists (e := eAt d.eqv xs ys) p1.isList p2.isList (by rw [List.size_toArray, List.size_toArray, l1, l2, hl]) (by show A.units + 1 < cLine; omega) (fun j h1 h2 => ?_) E Q ?_
      · have k := deL_items d I (A := A.in1) (by show A.units + 1 + d.dep < cLine; omega) h pa pb r1 r2 j (by simpa using h1) (by simpa using h2)
        simpa using k
      · rw [List.size_toArray, l1, eAt_all hl]
        exact q
  same H xs ys v h hv hw := by
    obtain ⟨a, o, ks, rfl, ra, za, pa⟩ := hv
    obtain ⟨b, o', ls, e, rb, zb, pb⟩ := hw
    cases e
    rw [ra] at rb
    cases rb
    exact deL_same d h pa pb
end
end L3
end
section
set_option maxHeartbeats 4000000
namespace L3
open PySem PySem.Spec PyProof.Rows L2
section
variable {X : Cx} {W : Bool} {F : Fm} {Γ : Gm} {Δ : Δs} {γ : Type}
def rEqQ (A : Around) (c : Bool → Bool) : R2 := fun x y H Q => ∃ (α : Type) (E : α → Pd) (d : De E) (_ : A.units + d.dep < cLine) (xs ys : List α), lokG d.ok xs ys = true ∧ (pL E xs).pr H x ∧ (pL E ys).pr H y ∧ Q (.bl (c (leqG d.eqv xs ys))) H
theorem op_neQ : OpR X (compareOp .NotEq) (rEqQ X.A fun b => !b) := by
  intro pins s σ H x y v u Q I rx ry h
  obtain ⟨α, E, d, hu, xs, ys, hk, ⟨a, o, ks, rfl, ra, _, pa⟩, ⟨b, o', ls, rfl, rb, _, pb⟩, q⟩ := h
  obtain rfl : v = Value.ref a := rx
  obtain rfl : u = Value.ref b := ry
  obtain ⟨us, r1, p1, _⟩ := I.list (xs := ks) (.inl (.inr ⟨o, ra⟩))
  obtain ⟨ws, r2, p2, _⟩ := I.list (xs := ls) (.inl (.inr ⟨o', rb⟩))
  have l1 : us.length = xs.length := by rw [← r1.length, paired_len pa]
  have l2 : ws.length = ys.length := by rw [← r2.length, paired_len pb]
  have hl := lokG_len hk
  refine SeqAt.l3_ne_lists (e := eAt d.eqv xs ys) p1.isList p2.isList (by rw [List.size_toArray, List.size_toArray, l1, l2, hl]) (by omega) (fun j h1 h2 => ?_) _ _ ?_
  · have k := deL_items d I (A := X.A) hu hk pa pb r1 r2 j (by simpa using h1) (by simpa using h2)
    simpa using k
  · rw [List.size_toArray, l1, eAt_all hl]
    exact ⟨.bl (!leqG d.eqv xs ys), H, I, rfl, q⟩
section
variable {a b : Expr} {pos : Pos} {β1 β2 α : Type} {T : Option γ} {k1 : β1 → Option γ} {k : β1 × β2 → Option γ} {Δ1 : β1 → Δs} {Δ2 : β1 → β2 → Δs} {Ee : α → Pd} {x : β1 → List α} {y : β1 → β2 → List α}
end
end
end L3
end
section
set_option maxHeartbeats 4000000
set_option autoImplicit true
namespace L3
open PySem PySem.Spec PyProof.Rows L2
theorem room_dep {k n : Nat} {A : Around} (r : Room k A) (h : n ≤ 200) : A.units + n < cLine := by have := r.un; omega
section
variable {X : Cx} {W : Bool} {F : Fm} {Γ : Gm} {Δ : Δs} {γ : Type}
section
variable {e a b : Expr} {r : R2} {β1 β2 : Type} {T : Option γ} {k1 : β1 → Option γ} {E1 : β1 → Pd} {E2 : β1 → β2 → Pd} {Δ1 : β1 → Δs} {Δ2 : β1 → β2 → Δs}
theorem t2g {c : β1 × β2 → Bool} {k : β1 × β2 → Option γ} {d : β1 → β2 → Prop} [∀ b1 b2, Decidable (d b1 b2)] (h2 : Bin2T X e a b r) (ha : PE X a (tE W F Γ Δ T k1 E1 Δ1)) (hb : ∀ b1, PE X b (tE W F Γ (Δ1 b1) (k1 b1) (fun b2 => grd (d b1 b2) (k (b1, b2))) (E2 b1) (Δ2 b1)))
    (hv : ∀ b1 b2 σ v w H Q, Ok F Γ (Δ2 b1 b2) σ H → d b1 b2 → (E1 b1).pr H v → (E2 b1 b2).pr H w → (∀ u, (pBl (c (b1, b2))).pr H u → Q u H) → r v w H Q) : PT X e (tTs W F Γ Δ T k c fun b => Δ2 b.1 b.2) :=
  t2_core h2 ha hb fun σ H Q ⟨ok, g, e, q⟩ => ⟨ok, g, e, fun b1 b2 v w H2 kb f ok2 hv1 hv2 => hv b1 b2 σ v w H2 _ ok2 (grd_some kb).1 hv1 hv2 fun u hu => ⟨c (b1, b2), hu, q (b1, b2) H2 (grd_some kb).2 f ok2⟩⟩
end
section
variable {a b : Expr} {pos : Pos} {β1 β2 α : Type} {T : Option γ} {k1 : β1 → Option γ} {k : β1 × β2 → Option γ} {Δ1 : β1 → Δs} {Δ2 : β1 → β2 → Δs} {Ee : α → Pd} {x : β1 → List α} {y : β1 → β2 → List α}
theorem t_neQ (d : De Ee) (hu : X.A.units + d.dep < cLine) (ha : PE X a (tE W F Γ Δ T k1 (fun b => pL Ee (x b)) Δ1)) (hb : ∀ b1, PE X b (tE W F Γ (Δ1 b1) (k1 b1) (fun b2 => grd (lokG d.ok (x b1) (y b1 b2) = true) (k (b1, b2))) (fun b2 => pL Ee (y b1 b2)) (Δ2 b1))) :
    PT X (.Compare a [.NotEq] [b] pos) (tTs W F Γ Δ T k (fun b => !leqG d.eqv (x b.1) (y b.1 b.2)) fun b => Δ2 b.1 b.2) :=
  t2g (bt_cmp op_neQ (nomark _)) ha hb fun b1 b2 σ v w H Q ok c hv hw q => ⟨α, Ee, d, hu, x b1, y b1 b2, c, hv, hw, q _ rfl⟩
end
section
variable {a b : Expr} {pos : Pos} {β1 β2 α : Type} [DecidableEq α] {T : Option γ} {k1 : β1 → Option γ} {k : β1 × β2 → Option γ} {Δ1 : β1 → Δs} {Δ2 : β1 → β2 → Δs} {Ee : α → Pd} {x : β1 → α} {y : β1 → β2 → α}
end
end
end L3
end
section
set_option maxHeartbeats 2000000
namespace PySem
namespace SxX
open PySem.W PySem.Calls PyProof.Rows PySem.HandSPX
abbrev exR (C t : Addr) (dv : Option Addr) : Obj := { cls := .ref C, dict := dv, data := .fields #[.ref t, .none, .none, .none, .bool false, .none] }
inductive Stores : List Stmt → List Str → Prop
  | nil : Stores [] []
  | cons {rest : List Stmt} {fs : List Str} {f : Str} {q1 q2 q3 q4 : Pos} (hd : (f == ("__debug__" : Str)) = false) (h : Stores rest fs) : Stores (.Assign [.Attribute (.Name "self" q1) f q2] (.Name f q3) q4 :: rest) (f :: fs)
theorem kept_but {K : Frag} {h h' : Heap} {x : Addr} (X : K.In h) (hx : K.lookup x = none) (k : ∀ b o, b ≠ x → h.get? b = some o → h'.get? b = some o) : K.In h' := fun a o e =>
  k a o (fun z => by rw [z, hx] at e; cases e) (X a o e)
theorem ns_but {h h' : Heap} {L x : Addr} {m : Str → Option Value} (hn : h.Ns L m) (hL : L ≠ x) (k : ∀ b o, b ≠ x → h.get? b = some o → h'.get? b = some o) : h'.Ns L m := by
  obtain ⟨oL, es, ep, e, r⟩ := hn
  exact ⟨oL, es, ep, k _ _ hL e, r⟩
theorem lookup_cons (f g : Str) (v : Value) (l : List (Str × Value)) : ((f, v) :: l).lookup g = if g = f then some v else l.lookup g := by
  by_cases h : g = f
  · subst h; rw [if_pos rfl]; simp [List.lookup]
  · rw [if_neg h]
    have : (g == f) = false := by simpa using h
    simp [List.lookup, this]
theorem within_self (l : List (Str × Value)) : Within (fun y => l.lookup y) (l.map (·.1)) := fun y hy => by
  induction l with
  | nil => exact absurd (show (none : Option Value) ≠ none from hy) (fun z => z rfl)
  | cons p l ih =>
    obtain ⟨f, v⟩ := p
    have hy : ((f, v) :: l).lookup y ≠ none := hy
    rw [lookup_cons] at hy
    by_cases e : y = f
    · rw [e]; exact List.mem_cons_self
    · rw [if_neg e] at hy
      exact List.mem_cons_of_mem _ (ih hy)
def Dct (h : Heap) (K : Frag) (x L n : Addr) (dv : Option Addr) (done : List (Str × Value)) : Prop :=
  match dv with
  | none => done = []
  | some dx => h.Ns1 dx (fun y => done.lookup y) ∧ K.lookup dx = none ∧ dx ≠ x ∧ dx ≠ L ∧ n ≤ dx
section
variable {prog : Program} {w : World} {A : Around} {E : Value → Shared → Prop} {K : Frag} {C x L t1 : Addr} {env : Env} {g : Array GenState} {d : Drawn} {os : OsState} {hb : Heap} {m : Str → Option Value} {cd : ClassData}
theorem ldL {M : Model} {s : Shared} {y : Str} {pos : Pos} {v : Value} {Q : Value → Shared → Prop} (hk : env.scope.kind = .function) (hl : env.kindOf y = some .local) (hL : env.locals = L) (hn : s.heap.Ns L m) (hv : m y = some v) (h : Q v s) (hd : (y == ("__debug__" : Str)) = false) :
    wpAny M A (eval (.Name y pos) env) Q E s := wpAny_Name (wpAny_loadName_local hk hl (by rw [hL]; exact hn) hv h) hd
theorem stores_run (hk : env.scope.kind = .function) (hL : env.locals = L) (hself : env.kindOf "self" = some .local) (hms : m "self" = some (.ref x)) (hcl : clsIn K C = some cd) (hm : refsVE cd.mro = true) (hh : cd.hasDict = true) (sa : findIn K (.ref C) "__setattr__" = some (some (.builtin "object.__setattr__")))
    (hnx : K.lookup x = none) (hxL : L ≠ x) : ∀ {st : List Stmt} {fs : List Str}, Stores st fs → ∀ {h : Heap} {tk : Nat} {vs : List Value} {done : List (Str × Value)} {dv : Option Addr} {Q : Flow → Shared → Prop},
    K.In h → h.Ns L m → vs.length = fs.length → (∀ (i : Nat) f v, fs[i]? = some f → vs[i]? = some v → m f = some v) → (∀ f ∈ fs, env.kindOf f = some .local) → (∀ f ∈ fs, findIn K (.ref C) f = some none) → h.get? x = some (exR C t1 dv) → Dct h K x L hb.objs.size dv done →
    done.length + fs.length ≤ 900 → L < h.objs.size → hb.objs.size ≤ h.objs.size → (∀ b o, b ≠ x → hb.get? b = some o → h.get? b = some o) →
    (∀ (h' : Heap) (tk' : Nat) (dv' : Option Addr), (∀ b o, b ≠ x → hb.get? b = some o → h'.get? b = some o) → h'.get? x = some (exR C t1 dv') → Dct h' K x L hb.objs.size dv' ((fs.zip vs).reverse ++ done) → (fs = [] → dv' = dv) → Q .next ⟨h', g, d, tk', os⟩) →
    wpAny (model prog w) A (execs st env) Q E ⟨h, g, d, tk, os⟩
  | _, _, .nil, h, tk, vs, done, dv, Q, X, hn, hl, hv, hloc, hno, hx, hD, hz, hLs, hsz, hkb, hq => by
    refine wpAny_execs_nil (hq h tk dv hkb hx ?_ fun _ => rfl)
    have : vs = [] := List.eq_nil_of_length_eq_zero hl
    subst this
    exact hD
  | _, f :: fs, .cons hdb hS, h, tk, [], done, dv, Q, X, hn, hl, hv, hloc, hno, hx, hD, hz, hLs, hsz, hkb, hq => by cases hl
  | _, f :: fs, .cons hdb hS, h, tk, v :: vs, done, dv, Q, X, hn, hl, hv, hloc, hno, hx, hD, hz, hLs, hsz, hkb, hq => by
    have hfv : m f = some v := hv 0 f v rfl rfl
    have hz2 : done.length + (fs.length + 1) ≤ 900 := by simpa using hz
    refine wpAny_execs_cons (plainObj_wpAny_Assign_Attribute ?_)
    refine ldL hk (hloc f List.mem_cons_self) hL hn hfv (ldL hk hself hL hn hms ?_ (by decide)) hdb
    have next : ∀ (h' : Heap) (tk' : Nat) (dx : Addr), (∀ b o, b ≠ x → hb.get? b = some o → h'.get? b = some o) → K.In h' → h'.Ns L m → h'.get? x = some (exR C t1 (some dx)) → h'.Ns1 dx (fun y => ((f, v) :: done).lookup y) → K.lookup dx = none → dx ≠ x → dx ≠ L → hb.objs.size ≤ dx → L < h'.objs.size → hb.objs.size ≤ h'.objs.size →
        wpAny (model prog w) A (execs _ env) Q E ⟨h', g, d, tk', os⟩ := fun h' tk' dx k1 X' n' x' d' kd dx1 dxL dn L' sz' =>
      stores_run hk hL hself hms hcl hm hh sa hnx hxL hS (done := (f, v) :: done) (dv := some dx) X' n' (by simpa using hl) (fun i f' v' e1 e2 => hv (i + 1) f' v' e1 e2) (fun f' hf => hloc f' (List.mem_cons_of_mem _ hf)) (fun f' hf => hno f' (List.mem_cons_of_mem _ hf)) x' ⟨d', kd, dx1, dxL, dn⟩ (by rw [List.length_cons]; omega) L' sz' k1 fun h2 tk2 dv2 k2 x2 d2 _ => hq h2 tk2 dv2 k2 x2 (by
        rw [List.zip_cons_cons, List.reverse_cons, List.append_assoc]
        exact d2) (fun z => by cases z)
    cases dv with
    | none =>
      have hd0 : done = [] := hD
      refine set_plain X (ox := exR C t1 none) (od := none) ⟨hx, rfl, rfl, trivial⟩ sa ?_
      refine exc_osa X hx hcl hm hh (hno f List.mem_cons_self) fun h' tk' dx k dn dne hx' hn' => ?_
      have kd : K.lookup dx = none := by
        cases e : K.lookup dx with
        | none => rfl
        | some o => exact absurd (Heap.lt_size (X _ _ e)) (Nat.not_lt.mpr dn)
      have dn : h.objs.size ≤ dx := dn
      have h3 : dx < h'.objs.size := by
        obtain ⟨oD, esD, epD, hoD, hdD, _⟩ := hn'.count (Within.cons f v Within.nil)
        exact Heap.lt_size hoD
      have hs : h.objs.size ≤ h'.objs.size := Nat.le_trans dn (Nat.le_of_lt h3)
      refine next h' tk' dx (fun b o hb1 hb2 => k b o hb1 (hkb b o hb1 hb2)) (kept_but X hnx k) (ns_but hn hxL k) hx' ?_ kd dne (fun z => Nat.lt_irrefl _ (Nat.lt_of_lt_of_le hLs (by rw [← z]; exact dn))) (Nat.le_trans hsz dn) (Nat.lt_of_lt_of_le hLs hs) (Nat.le_trans hsz hs)
      have e : (fun y => if y = f then some v else none) = fun y => ((f, v) :: done).lookup y := by
        funext y
        rw [lookup_cons, hd0]
        rfl
      rw [← e]
      exact hn'
    | some dx =>
      obtain ⟨hns, kd, dne, dL, dn⟩ := hD
      have dn : hb.objs.size ≤ dx := dn
      have hw := within_self done
      obtain ⟨oD, esD, epD, hoD, hdD, _⟩ := hns.count hw
      refine set_plain X (ox := exR C t1 (some dx)) (od := some oD) ⟨hx, rfl, rfl, hoD⟩ sa ?_
      refine OEX.osa_old X hx hns hw (by rw [List.length_map]; omega) hcl hm hh (hno f List.mem_cons_self) fun h' tk' k hn' => ?_
      have e : (fun y => if y = f then some v else done.lookup y) = fun y => ((f, v) :: done).lookup y := by
        funext y
        rw [lookup_cons]
      rw [e] at hn'
      have hx' := k x _ (Ne.symm dne) hx
      have L' : L < h'.objs.size := by
        obtain ⟨oL, es, ep, e, r⟩ := hn
        exact Heap.lt_size (k L _ (Ne.symm dL) e)
      have sz' : hb.objs.size ≤ h'.objs.size := by
        have h3 : dx < h'.objs.size := by
          obtain ⟨oD, esD, epD, hoD, hdD, _⟩ := hn'.count (within_self ((f, v) :: done))
          exact Heap.lt_size hoD
        exact Nat.le_trans dn (Nat.le_of_lt h3)
      exact next h' tk' dx (fun b o hb1 hb2 => k b o (fun z => by
        have := Heap.lt_size hb2
        rw [z] at this
        exact Nat.lt_irrefl _ (Nat.lt_of_lt_of_le this dn)) (hkb b o hb1 hb2)) (kept_but X kd k) (ns_but hn (Ne.symm dL) k) hx' hn' kd dne dL dn L' sz'
end
end SxX
end PySem
end
section
set_option maxHeartbeats 2000000
namespace PySem
namespace SxX
open PySem.W PySem.Calls PyProof.Rows PySem.HandSPX
structure SxTxt (prog : Program) (K : Frag) (C fI : Addr) (ps : List Str) : Prop where
  cls : ∃ nm q N bs bm sn sub ab col dd k0 k1 k2 k3 k5, K.lookup C = some (excClassObj nm q C N bs bm true sn sub ab col dd k0 k1 k2 k3 k5 "ValueError.__new__") ∧ refsVE bm = true
  sa : findIn K (.ref C) "__setattr__" = some (some (.builtin "object.__setattr__"))
  noN : ∀ f ∈ ps, findIn K (.ref C) f = some none
  iC : findIn K (.ref C) "__init__" = some (some (.ref fI))
  tC : typeIn K (.ref fI) = some (.type "function")
  kC : keepIn K (.ref C) = true
  exC : subIn K (.ref C) (.type "BaseException") = some true
  veC : subIn K (.ref C) (.type "ValueError") = some true
  tyC : typeIn K (.ref C) = some (.type "type")
  sup : ks_superIn K C C "__init__" = some (some (.builtin "ValueError.__init__"))
  opq : nsIn K cStatics "thirdparty.any" = some none
  few : ps.length ≤ 900
  top : (prog.main.scope.names.lookup ("super" : Str)).isSome = false
  fn : ∃ (oc : Value) (od : Option Addr) (doc pm : Value) (an : Option Addr) (cda : Addr) (ct : Value) (osl : Array (Option Value)) (cc : Addr) (qual : Str) (params : Arguments) (ar : Arg) (text : Str) (kk : Nat) (q0 q1 q2 q3 q4 q5 : Pos) (stores : List Stmt) (scope : Scope)
      (ccl : Value) (cdd : Option Addr) (vs : Array Value) (ccs : Array (Option Value)) (file : Str) (tf : Tok) (cl : Value) (cld : Option Addr) (csl : Array (Option Value)),
    K.lookup fI = some ⟨oc, od, .func (ksFn "__init__" qual params (.Expr (.Call (.Attribute (.Call (.Name "super" q1) [] [] q2) "__init__" q3) [.Constant (.str text) kk q0] [] q4) q5 :: stores) scope .none .none doc pm an (.ref cda) ct cc), osl⟩ ∧ codeIn K (.ref cda) qual = true ∧ Stores stores ps ∧
    (params.posonlyargs ++ params.args).head? = some ar ∧ ar.arg = "self" ∧ K.lookup cda = some ⟨ccl, cdd, .fields vs, ccs⟩ ∧ vs[2]? = some (.str file tf) ∧ ((prog.main.file : Str) == file) = true ∧ (q3.endLine == q4.line) = true ∧ K.lookup cc = some ⟨cl, cld, .cell (some (.ref C)), csl⟩ ∧
    scope.names.lookup ("super" : Str) = some .globalImplicit ∧ scope.names.lookup ("__class__" : Str) = some .free ∧ scope.names.lookup ("self" : Str) = some .local ∧ (∀ f ∈ ps, scope.names.lookup f = some .local) ∧ scope.kind = .function ∧ scope.isCoroutine = false ∧ scope.isGenerator = false ∧ (∀ x ∈ scope.names, x.2 ≠ .cell) ∧
    (("self" : Str) :: ps).Nodup ∧
    ∀ (s : Shared) (us : List Value), us.length = ps.length + 1 → BindsTo s (ksFn "__init__" qual params (.Expr (.Call (.Attribute (.Call (.Name "super" q1) [] [] q2) "__init__" q3) [.Constant (.str text) kk q0] [] q4) q5 :: stores) scope .none .none doc pm an (.ref cda) ct cc) ⟨us, []⟩ ((("self" : Str) :: ps).zip us)
theorem eval_mcall {o : Expr} {name : Str} {apos pos : Pos} {args : List Expr} {env : Env} (hline : (apos.endLine == pos.line) = true) (hform : methodCallForm (args.length + ([] : List Keyword).length) (backTo pos (starEach args env)) (backToKw pos (keywordEach [] env)) = true) :
    eval (.Call (.Attribute o name apos) args [] pos) env = (do
      let ov ← attributeBase o name env (eval o env)
      standAt apos.atName
      let (f, first) ← holding [ov] (getMethod ov name (do return (← importBound o env).getD true))
      callWith pos f first (backTo pos (starEach args env)) []) := by
  rw [arm_eval_Call]
  have hpos : methodCallPos true o env apos pos = pure pos := by unfold methodCallPos; simp [hline]
  unfold methodCall
  rw [hform, hpos]
  simp only [pure_bind]
  rfl
theorem str1_size (v : Value) : [v].length ≤ sizeLine := by
  rw [sizeLine_eq]
  exact (by decide : 1 ≤ 16777216)
theorem zip_rev_lookup : ∀ {ps : List Str} {us : List Value}, ps.Nodup → ∀ (i : Nat) (f : Str) (v : Value), ps[i]? = some f → us[i]? = some v → (ps.zip us).reverse.lookup f = some v
  | [], us, _, i, f, v, h, _ => by simp at h
  | p :: ps, [], _, i, f, v, _, h => by simp at h
  | p :: ps, u :: us, nd, i, f, v, h1, h2 => by
    rw [List.nodup_cons] at nd
    rw [List.zip_cons_cons, List.reverse_cons, List.lookup_append]
    cases i with
    | zero =>
      simp only [List.getElem?_cons_zero, Option.some.injEq] at h1 h2
      subst h1 h2
      have hn : (ps.zip us).reverse.lookup p = none := by
        rw [List.lookup_eq_none_iff]
        intro q hq
        have hq := List.mem_reverse.mp hq
        have := (List.of_mem_zip (show (q.1, q.2) ∈ ps.zip us from hq)).1
        simp only [beq_eq_false_iff_ne, ne_eq, bne_iff_ne, Bool.not_eq_true]
        exact fun e => nd.1 (by rw [e]; exact this)
      rw [hn]
      simp [List.lookup]
    | succ j =>
      rw [zip_rev_lookup nd.2 j f v (by simpa using h1) (by simpa using h2)]
      rfl
section
variable {prog : Program} {w : World} {A : Around} {R : Result → Shared → Prop} {K : Frag} {C fI x t0 : Addr} {ps : List Str} {hb : Heap} {g : Array GenState} {d : Drawn} {tk : Nat} {os : OsState} {mg : Str → Option Value}
theorem bound_call {A : Around} {E : Value → Shared → Prop} {h : Heap} {u t : Addr} {rest : List Value} {Q : Value → Shared → Prop} {nm q : Str} {N : Addr} {bs bm : List Value} {hdct : Bool} {sn : List Str} {sub : List Value} {ab : Bool} {col : Option Bool} {dd : Option Addr} {k0 k1 k2 k3 k5 : Option Value}
    (hC : h.get? C = some (excClassObj nm q C N bs bm hdct sn sub ab col dd k0 k1 k2 k3 k5 "ValueError.__new__")) (hu : h.get? u = some (kxs_mw "ValueError.__init__" x)) (he : h.get? x = some (exR C t none)) (hz : rest.length ≤ sizeLine)
    (hq : ∀ h' t1, (∀ b o, b ≠ x → h.get? b = some o → h'.get? b = some o) → h'.get? x = some (exR C t1 none) → Q .none ⟨h', g, d, tk, os⟩) : wpAny (model prog w) A (call (.ref u) rest) Q E ⟨h, g, d, tk, os⟩ := by
  refine wpAny_call (codeAny_of_tree ?_)
  show wpAny _ A.in1 (callAny (.ref u) ⟨rest, []⟩) _ _ _
  simp only [callAny]
  refine wpAny_bind (wpAny_load hu ?_)
  simp only [kxs_mw, show (Value.type "method-wrapper" == Value.type "method" || Value.type "method-wrapper" == Value.type "builtin_function_or_method" || Value.type "method-wrapper" == Value.type "method-wrapper") = true by decide, if_true]
  refine KFB.if_so (by decide) ?_
  refine wpAny_bind (check_bound_init F.excBase_ValueError.toExcCallFacts hC he rfl ?_)
  refine wpAny_bind (wpAny_pure (wpAny_pure ?_))
  refine ⟨plainId_quiet F.excBase_ValueError.init.plain _, codeAny_builtin F.excBase_ValueError.initEntry ?_⟩
  exact exc_init_tree (cls := .ref C) (t0 := t) (dv := none) (c2 := .none) (c3 := .none) (b4 := .bool false) he hz fun h' k e _ => hq h' _ k e
theorem sx_init (T : SxTxt prog K C fI ps) {vs : List Value} (hl : vs.length = ps.length) (X : K.In hb) (hlim : hb.NoLimit) (G : hb.Ns mainGlobals mg) (hmg : mg "super" = none) (hblt : ∃ mb, hb.Ns builtinsNs mb ∧ ∀ x : Str, x ≠ "__name__" → mb x = bootBuiltins x)
    (hx : hb.get? x = some (excO C t0)) (hnx : K.lookup x = none) (hroom : A.depth < recursionLimit)
    (hq : ∀ (h' : Heap) (tk' : Nat) (t1 : Addr) (dv : Option Addr), (∀ b o, b ≠ x → hb.get? b = some o → h'.get? b = some o) → h'.get? x = some (exR C t1 dv) → Dct h' K x hb.objs.size hb.objs.size dv (ps.zip vs).reverse → (ps = [] → dv = none) → R (.ok (.ret .none)) ⟨h', g, d, tk', os⟩) :
    codeAny (model prog w) A (.call (.ref fI) ⟨.ref x :: vs, []⟩) R ⟨hb, g, d, tk, os⟩ := by
  obtain ⟨oc, od, doc, pm, an, cda, ct, osl, cc, qual, params, ar, text, kk, q0, q1, q2, q3, q4, q5, stores, scope, ccl, cdd, fvs, ccs, file, tf, cl, cld, csl, ho, hcd, hS, hp, har, hcode, hfv, hfile, hline, hcell, hks, hkc, hka, hkps, hkf, hco, hgen, hnc, nd, hbd⟩ := T.fn
  obtain ⟨nm, q, N, bs, bm, sn, sub, ab, col, dd, k0, k1, k2, k3, k5, hC, hbm⟩ := T.cls
  have hcl : clsIn K C = some { name := nm, bases := bs, mro := .ref C :: bm, ns := N, qualname := q, hasDict := true, slotNames := sn, subclasses := sub, abstract := ab, collection := col, hasDel := false } := by unfold clsIn; rw [hC] <;> rfl
  have hlen : (Value.ref x :: vs).length = ps.length + 1 := by rw [List.length_cons, hl]
  have hxs := Heap.lt_size hx
  refine ks_codeAny_call_defAt (binds := (("self" : Str) :: ps).zip (Value.ref x :: vs)) hroom (X _ _ ho) rfl hlim (codeRec_of X hcd) rfl (hbd _ _ hlen) hnc (fun y hy => ?_) (fun h₁ hns hk₁ => ?_) hco hgen hkf
  · have := (List.of_mem_zip (show (y.1, y.2) ∈ _ from hy)).1
    rcases List.mem_cons.mp this with e | e
    · rw [e]; exact hka
    · exact hkps _ e
  have hk1 : ∀ b o, hb.get? b = some o → h₁.get? b = some o := hk₁
  have hL : (hb.objs.size : Addr) ≠ x := Nat.ne_of_gt hxs
  have X1 : K.In h₁ := X.keeps hk1
  have hx1 := hk1 _ _ hx
  have hmself : ((("self" : Str) :: ps).zip (Value.ref x :: vs)).reverse.lookup ("self" : Str) = some (.ref x) := zip_rev_lookup nd 0 _ _ rfl rfl
  have hmf : ∀ (i : Nat) f v, ps[i]? = some f → vs[i]? = some v → ((("self" : Str) :: ps).zip (Value.ref x :: vs)).reverse.lookup f = some v := fun i f v e1 e2 => zip_rev_lookup nd (i + 1) f v e1 e2
  generalize hm : (fun y => ((("self" : Str) :: ps).zip (Value.ref x :: vs)).reverse.lookup y) = m at hns
  have hmself : m "self" = some (.ref x) := by rw [← hm]; exact hmself
  have hmf : ∀ (i : Nat) f v, ps[i]? = some f → vs[i]? = some v → m f = some v := fun i f v e1 e2 => by rw [← hm]; exact hmf i f v e1 e2
  obtain ⟨mb, hb1, hb2⟩ := hblt
  show wpAt _ _ _ (execs _ (ksEnv qual scope hb.objs.size fI (.ref cda) cc)) _ _ _
  refine ks_wpAt_execs_cons (ks_wpAt_Expr_any (ks_wpAt_MethodCall ?_ (eval_mcall hline (by rfl))) (by unfold interactive; simp [hkf]) (by rfl))
  obtain ⟨oD, hD1, hD2⟩ : ∃ oD : Obj, h₁.get? C = some oD ∧ ∃ cd, oD.data = .cls cd := ⟨_, X1 _ _ hC, _, rfl⟩
  obtain ⟨cdD, hD2⟩ := hD2
  refine ks_wpAt_super_base (env := ksEnv qual scope hb.objs.size fI (.ref cda) cc) hks hkc (by decide) rfl (X1 _ _ ho) rfl hp rfl (X1 _ _ hcode) rfl hfv hfile T.top ?_
  refine ks_loadName_global hkf hks (loadGlobal_builtin (env := ksEnv qual scope hb.objs.size fI (.ref cda) cc) (G.keeps hk1) hmg (hb1.keeps hk1) ((hb2 _ (by decide)).trans (by decide +kernel)) ⟨rfl, ?_⟩)
  refine wpAny_loadName_free hkf hkc rfl ⟨_, X1 _ _ hcell, rfl⟩ ?_
  refine wpAny_loadName_local (by exact hkf) (by rw [har]; exact hka) hns (by rw [har]; exact hmself) ?_
  refine ks_wpAny_isType_cls hD1 hD2 ⟨rfl, ?_⟩
  have subCC : Looks (model prog w) h₁ (isSubtype (.ref C) (.ref C)) true := by
    refine looks_mroIn X1 ?_
    unfold mroIn
    rw [hcl]
    simp
  refine ks_wpAny_call_super hD1 hD2 hx1 rfl (fun c e => by cases e) subCC fun h2 hso hk2 => ?_
  have hk02 : ∀ b o, hb.get? b = some o → h2.get? b = some o := fun b o e => hk2 b o (hk1 b o e)
  have X2 : K.In h2 := X1.keeps hk2
  have hx2 := hk2 _ _ hx1
  have hI : Looks (model prog w) h2 (isInstance (.ref x) (.type "ValueError")) true := (show W.InstAt h2 x (excO C t0) C none from ⟨hx2, rfl, rfl, trivial⟩).type.andThen (looks_subIn X2 T.veC)
  have hxC : x ≠ C := ks_ne X2 (show W.InstAt h2 x (excO C t0) C none from ⟨hx2, rfl, rfl, trivial⟩) hcl
  have hsup : alongIn K "__init__" (((Value.ref C :: bm).dropWhile (· != .ref C)).drop 1) = some (some (.builtin "ValueError.__init__")) := by
    have := T.sup
    unfold ks_superIn at this
    rw [hcl] at this
    exact this
  refine kxs_getMethod kxs_ValueError hso (looks_opaque X2 T.opq) (l₀ := .ref C :: bm) (fun A Q E s k q => wpAny_bind ((looks_clsIn X2 hcl) A _ E s k (wpAny_pure q))) rfl X2 hsup hI hxC (by decide) ?_
  have hu3 : (h2.push (kxs_mw "ValueError.__init__" x)).get? h2.objs.size = some (kxs_mw "ValueError.__init__" x) := Heap.get?_push_size _ rfl
  have hk3 : ∀ b o, h2.get? b = some o → (h2.push (kxs_mw "ValueError.__init__" x)).get? b = some o := fun b o e => Heap.get?_push_of_some _ e
  show wpAny _ _ (callWith _ (.ref h2.objs.size) [] _ []) _ _ _
  refine kxs_callWith (i := "ValueError.__init__") (x := x) (by rfl) ?_
  refine evalArgs_plain (spliced_cons (Constant_str (k := kk) (pos := q0) (spliced_nil ⟨hu3, ?_⟩)))
  have hC3 := hk3 _ _ (X2 _ _ hC)
  refine bound_call (t := t0) hC3 hu3 (hk3 _ _ hx2) (str1_size _) fun h5 t1 k5 x5 => ?_
  refine wpAt_of_wpAny ?_
  have k05 : ∀ b o, b ≠ x → hb.get? b = some o → h5.get? b = some o := fun b o e1 e2 => k5 b o e1 (hk3 b o (hk02 b o e2))
  have n5 : h5.Ns hb.objs.size m := by
    obtain ⟨oL, es, ep, e, r⟩ := hns
    exact ⟨oL, es, ep, k5 _ _ hL (hk3 _ _ (hk2 _ _ e)), r⟩
  have L5 : hb.objs.size < h5.objs.size := by
    obtain ⟨oL, es, ep, e, r⟩ := n5
    exact Heap.lt_size e
  refine stores_run (env := ksEnv qual scope hb.objs.size fI (.ref cda) cc) (hb := hb) (L := hb.objs.size) hkf rfl hka hmself hcl (show refsVE (.ref C :: bm) = true from hbm) rfl T.sa hnx hL hS (done := []) (dv := none) (kept_but X hnx k05) n5 hl hmf hkps T.noN x5 rfl (by have := T.few; rw [List.length_nil]; omega) L5 (Nat.le_of_lt L5) k05 fun h' tk' dv' k' x' d' z => ?_
  exact hq h' tk' t1 dv' k' x' (by rw [List.append_nil] at d'; exact d') z
theorem sx_made (T : SxTxt prog K C fI ps) {vs : List Value} (hl : vs.length = ps.length) (X : K.In hb) (hlim : hb.NoLimit) (G : hb.Ns mainGlobals mg) (hmg : mg "super" = none) (hblt : ∃ mb, hb.Ns builtinsNs mb ∧ ∀ x : Str, x ≠ "__name__" → mb x = bootBuiltins x) (hroom : A.depth + 1 < recursionLimit)
    (hq : ∀ (h' : Heap) (tk' : Nat) (e t1 : Addr) (dv : Option Addr), (∀ b o, hb.get? b = some o → h'.get? b = some o) → hb.objs.size ≤ e → h'.get? e = some (exR C t1 dv) → (match dv with | none => ps = [] | some dx => hb.objs.size ≤ dx ∧ dx ≠ e ∧ h'.Ns1 dx (fun y => (ps.zip vs).reverse.lookup y) ∧ ps ≠ []) → R (.ok (.ret (.ref e))) ⟨h', g, d, tk', os⟩) :
    codeAny (model prog w) A (.call (.ref C) ⟨vs, []⟩) R ⟨hb, g, d, tk, os⟩ := by
  obtain ⟨nm, q, N, bs, bm, sn, sub, ab, col, dd, k0, k1, k2, k3, k5, hC, hbm⟩ := T.cls
  have k : ∀ b o, hb.get? b = some o → ((hb.push (kdv_tup vs)).push (excO C hb.objs.size)).get? b = some o := fun b o e => Heap.get?_push_of_some _ (Heap.get?_push_of_some _ e)
  have hget : ((hb.push (kdv_tup vs)).push (excO C hb.objs.size)).get? (hb.objs.size + 1) = some (excO C hb.objs.size) := by heap_get
  have hnx : K.lookup (hb.objs.size + 1) = none := by
    cases e : K.lookup (hb.objs.size + 1) with
    | none => rfl
    | some o =>
      have z : hb.get? (hb.objs.size + 1) = some o := X _ _ e
      exact absurd (Nat.lt_of_succ_lt (Heap.lt_size z)) (Nat.lt_irrefl _)
  have hsz : vs.length ≤ sizeLine := by
    have := T.few
    rw [hl, sizeLine_eq]
    omega
  refine call_own F.excBase_ValueError (fun X => refsVE_contains X bm hbm) (X _ _ hC) (looks_findIn X T.iC) (fun self => bind_fn X self T.tC) hsz ?_
  refine sx_init (hb := (hb.push (kdv_tup vs)).push (excO C hb.objs.size)) T hl (X.keeps k) (hlim.keeps k) (G.keeps k) hmg (by
    obtain ⟨mb, h1, h2⟩ := hblt
    exact ⟨mb, h1.keeps k, h2⟩) hget hnx (by show A.depth + 1 < recursionLimit; exact hroom) fun h' tk' t1 dv k' hx hD hn => ?_
  have old : ∀ b o, hb.get? b = some o → h'.get? b = some o := fun b o e => k' b o (Nat.ne_of_lt (Nat.lt_succ_of_lt (Heap.lt_size e))) (k b o e)
  refine ⟨rfl, hq h' tk' (hb.objs.size + 1) t1 dv old (Nat.le_succ _) hx ?_⟩
  cases dv with
  | none =>
    have hD : (ps.zip vs).reverse = [] := hD
    have hD := List.reverse_eq_nil_iff.mp hD
    rcases List.zip_eq_nil_iff.mp hD with e | e
    · exact e
    · rw [e] at hl
      exact List.eq_nil_of_length_eq_zero hl.symm
  | some dx =>
    obtain ⟨hns, kd, dne, dL, dn⟩ := hD
    have z : hb.objs.size ≤ dx := by
      refine Nat.le_trans ?_ dn
      rw [Heap.size_push, Heap.size_push]
      omega
    exact ⟨z, dne, hns, fun e => by cases hn e⟩
end
end SxX
end PySem
end
section
set_option maxHeartbeats 2000000
set_option autoImplicit true
namespace L2
open PySem PySem.Spec PyProof.Rows PySem.SxX
def tSx (C : Addr) (ps : List Str) (vs : List V) : Hp → XK → Prop := fun H Q => vs.length = ps.length ∧ (ps = [] → Q (.ref C) none H) ∧ (ps ≠ [] → ∀ d, H d = none → Q (.ref C) (some d) (upd H d (.xd (ps.zip vs).reverse)))
theorem relO_app {f : Str} {l l' : List (Str × V)} {m m' : List (Str × Value)} (h1 : RelO (l.lookup f) (m.lookup f)) (h2 : RelO (l'.lookup f) (m'.lookup f)) : RelO ((l ++ l').lookup f) ((m ++ m').lookup f) := by
  rw [List.lookup_append, List.lookup_append]
  cases e1 : l.lookup f with
  | none =>
    cases e2 : m.lookup f with
    | none => exact h2
    | some u => rw [e1, e2] at h1; exact h1.elim
  | some v =>
    cases e2 : m.lookup f with
    | none => rw [e1, e2] at h1; exact h1.elim
    | some u => rw [e1, e2] at h1; exact h1
theorem relO_one {f p : Str} {v : V} {u : Value} (r : RelV v u) : RelO (List.lookup f [(p, v)]) (List.lookup f [(p, u)]) := by
  rw [lookup_put, lookup_cons]
  by_cases e : f = p
  · rw [if_pos e, if_pos e]; exact r
  · rw [if_neg e, if_neg e]; trivial
theorem vals_rev : ∀ {ps : List Str} {vs : List V} {us : List Value}, Vals vs us → ∀ f, RelO ((ps.zip vs).reverse.lookup f) ((ps.zip us).reverse.lookup f)
  | [], _, _, _, f => trivial
  | p :: ps, [], _, .nil, f => trivial
  | p :: ps, v :: vs, u :: us, .cons r t, f => by
    rw [List.zip_cons_cons, List.zip_cons_cons, List.reverse_cons, List.reverse_cons]
    exact relO_app (vals_rev t f) (relO_one r)
section
variable {X : Cx} {C fI : Addr} {ps : List Str} {x : Str} {p pos : Pos} {k : Nat}
theorem sx_mkP {pins : List (Addr × Obj)} {σ : St} {H1 : Hp} {Q : XK} {hp : Heap} {g : Array GenState} {dr : Drawn} {tk : Nat} {os : OsState} {vs : List V} {us : List Value} (T : SxTxt X.prog X.K C fI ps) (gS : X.mg "super" = none) (hr : Room k X.A) (I1 : Inv X pins σ H1 ⟨hp, g, dr, tk, os⟩) (r : Vals vs us) (q : tSx C ps vs H1 Q) :
    wpAny (model X.prog X.w) X.A (call (.ref C) us) (MkP X pins σ Q) X.xe ⟨hp, g, dr, tk, os⟩ := by
  have hlim := I1.nolimit
  obtain ⟨hl, q0, q1⟩ := q
  have hlu : us.length = ps.length := by rw [← r.length, hl]
  refine wpAny_call (sx_made T hlu I1.kIn hlim (I1.mod.glob.keeps I1.bk) gS (by
    obtain ⟨mb, h1, h2⟩ := I1.mod.blt
    exact ⟨mb, h1.keeps I1.bk, h2⟩) (by have := hr.dp; omega) fun h' tk' e t1 dv keep new hoe hD => ?_)
  show MkP X pins σ Q (.ref e) ⟨h', g, dr, tk', os⟩
  obtain ⟨G', g1, g2⟩ := restrict h' fun b => decide (b ≠ e)
  have gk : ∀ b, b ≠ e → G'.get? b = h'.get? b := fun b hb => g1 b (decide_eq_true hb)
  have ge : G'.get? e = none := g2 e (by simp)
  have old : ∀ b o, hp.get? b = some o → G'.get? b = some o := fun b o q => (gk b (Nat.ne_of_lt (Nat.lt_of_lt_of_le (Heap.lt_size q) new))).trans (keep b o q)
  have back : ∀ b o, G'.get? b = some o → h'.get? b = some o := fun b o q => by
    by_cases hb : b = e
    · rw [hb, ge] at q; cases q
    · exact (gk b hb).symm.trans q
  cases dv with
  | none =>
    have e0 : ps = [] := hD
    have J : Inv X pins σ H1 ⟨G', g, dr, tk', os⟩ := I1.kept old
    exact ⟨e, _, _, ⟨G', g, dr, tk', os⟩, H1, .ref C, none, rfl, J, back, ge, hoe, ⟨rfl, rfl⟩, rfl, rfl, I1.hok.fresh new, rfl, I1.bare, raises_own T.exC T.tyC, q0 e0⟩
  | some d =>
    obtain ⟨dbig, dne, hns, ne⟩ := hD
    have ob : ObjOk X.prog X.w (upd H1 d (.xd (ps.zip vs).reverse)) G' d (.xd (ps.zip vs).reverse) := ⟨_, hns.at (fun o q => (gk d dne).trans q), fun f => vals_rev r f⟩
    have J : Inv X pins σ (upd H1 d (.xd (ps.zip vs).reverse)) ⟨G', g, dr, tk', os⟩ := I1.laid (t' := tk') old dbig ob
    exact ⟨e, _, _, ⟨G', g, dr, tk', os⟩, _, .ref C, some d, rfl, J, back, ge, hoe, ⟨rfl, rfl⟩, rfl, rfl, by rw [upd_ne (Ne.symm dne)]; exact I1.hok.fresh new, rfl, I1.bare, raises_own T.exC T.tyC, q1 ne d (I1.hok.fresh dbig)⟩
def tMkSx (C : Addr) (ps : List Str) (ta : TA) : St → Hp → XK → Prop := fun σ H Q => ta σ H fun vs H1 => tSx C ps vs H1 Q
theorem pmk_sx {e : Expr} {es : List Expr} {ta : TA} (T : SxTxt X.prog X.K C fI ps) (gC : X.mg x = some (.ref C)) (gS : X.mg "super" = none) (hr : Room k X.A) (ha : PA X (e :: es) ta) (hg : Gl X x := by rfl) (hdb : (x == ("__debug__" : Str)) = false := by decide)
    (he : starEach (e :: es) X.env = (false, eval e X.env) :: starEach es X.env := by rfl) (hpl : (backTo pos (starEach es X.env)).any (·.1) = false := by rfl) :
    PMk X (.Call (.Name x p) (e :: es) [] pos) (tMkSx C ps ta) := by
  intro pins s σ H Q I h
  refine wpAny_Call_Name_kw (ld_glob I hg gC ?_ hdb)
  refine PySem.W.callWith_K (h₀ := X.base) I.ok.mod.kin T.kC (thn (ha.run pos pins s σ H _ I h) fun us s1 hh => ?_) he hpl
  obtain ⟨vs, H1, I1, r1, q1⟩ := hh
  refine ⟨I1.kIn, ?_⟩
  obtain ⟨hp, g, dr, tk, os⟩ := s1
  exact sx_mkP T gS hr I1 r1 q1
end
end L2
end
section
set_option maxHeartbeats 4000000
set_option autoImplicit true
namespace L3
open PySem PySem.Spec PyProof.Rows L2 PySem.SxX
def exC (C : Addr) (ps : List Str) (pds : List Pd) (cls : Value) (d : Option Addr) (H : Hp) : Prop :=
  cls = .ref C ∧ ((ps = [] ∧ d = none) ∨ (ps ≠ [] ∧ ∃ dd vs, d = some dd ∧ H dd = some (.xd (ps.zip vs).reverse) ∧ Paired (fun p v => Pd.pr p H v) pds vs))
theorem exC_mono {C : Addr} {ps : List Str} {pds : List Pd} {cls : Value} {d : Option Addr} {H H' : Hp} (f : Fzs H H') (h : exC C ps pds cls d H) : exC C ps pds cls d H' := by
  obtain ⟨e, h | ⟨ne, dd, vs, ed, hd, p⟩⟩ := h
  · exact ⟨e, .inl h⟩
  · exact ⟨e, .inr ⟨ne, dd, vs, ed, f _ _ trivial hd, paired_mono (fun p v q => p.mono f q) p⟩⟩
theorem xOut.mono {ε : Type} {Kx : Xk ε} {F : Fm} {Δx : Δs} {Nx : SS → Hp → Prop} {Wx : WX} {e : ε} {H H1 : Hp} (h : xOut Kx F Δx Nx Wx e H) (f : Fzs H H1) : xOut Kx F Δx Nx Wx e H1 := fun cls d σ H' f' => h cls d σ H' (f.trans f')
def fX {ε τ : Type} (Kx : Xk ε) (Tf : Fn τ) (F : Fm) (Δx : Δs) (Nx : SS → Hp → Prop) (Wx : WX) : Fn (Except ε τ) := ⟨fun H g D => match g with | .ok t => Tf.fin H t D | .error e => xOut Kx F Δx Nx Wx e H, fun {H H' g D} h f => by
  cases g with
  | ok t => exact Tf.mono h f
  | error e => exact xOut.mono h f⟩
theorem ins_X {ε τ : Type} {Kx : Xk ε} {Tf : Fn τ} {F : Fm} {Δx : Δs} {Nx : SS → Hp → Prop} {Wx : WX} (h : Ins Tf) : Ins (fX Kx Tf F Δx Nx Wx) := fun H g D n q => by
  cases g with
  | ok t => exact h H t D n q
  | error e => exact q
theorem ex_X {ε τ : Type} {Kx : Xk ε} {Tf : Fn τ} {F : Fm} {Δx : Δs} {Nx : SS → Hp → Prop} {Wx : WX} : Ex (fX Kx Tf F Δx Nx Wx) (Except.error (α := τ)) Kx F Δx Nx Wx := fun _ _ _ h => h
theorem ex_B {ε S τ : Type} {Kx : Xk ε} {Tf : Fn τ} {ιx : ε → τ} {C : S → Cxt} {F : Fm} {Δx : Δs} {Nx : SS → Hp → Prop} {Wx : WX} (h : Ex Tf ιx Kx F Δx Nx Wx) : Ex (fB F C Tf) (fun e => Bo.tm (ιx e)) Kx F Δx Nx Wx := fun H e D q => h H e D q
section
variable {X : Cx} {W : Bool} {F : Fm} {Γ : Gm} {Δ : Δs} {γ ε : Type} {Kx : Xk ε} {N : Fn γ} {ιx : ε → γ} {Δx : Δs} {Nx : SS → Hp → Prop} {Wx : WX} {k : Nat} {C fI : Addr} {ps : List Str} {x : Str} {p pos pos2 : Pos}
theorem s_raise {e : Expr} {es : List Expr} {β : Type} {T : Option γ} {pds : β → List Pd} {er : β → ε} {Δ' : β → Δs} (tk : Takes X Wx) (hN : Ex N ιx Kx F Δx Nx Wx) (Tx : SxTxt X.prog X.K C fI ps) (gC : X.mg x = some (.ref C)) (gS : X.mg "super" = none) (hr : Room k X.A)
    (ha : PA X (e :: es) (tAr true F Γ Δ T (fun b => some (ιx (er b))) pds Δ')) (hx : ∀ b cls d H, exC C ps (pds b) cls d H → Kx.ok (er b) cls d H) (hl : ∀ b, (pds b).length = ps.length) (ne : ps ≠ []) (hΔ : ∀ b, Δx.Sublist (Δ' b)) (hNx : ∀ σ H, Nm Γ σ H → Nx σ H) (hc : X.calm = true := by rfl) (hg : Gl X x := by rfl) (hdb : (x == ("__debug__" : Str)) = false := by decide)
    (he : starEach (e :: es) X.env = (false, eval e X.env) :: starEach es X.env := by rfl) (hpl : (backTo pos (starEach es X.env)).any (·.1) = false := by rfl) :
    PSs X [.Raise (some (.Call (.Name x p) (e :: es) [] pos)) none pos2] (tS F Γ Δ N T) :=
  (pss_one (ps_raise hc tk (pmk_sx Tx gC gS hr ha hg hdb he hpl))).wk fun D σ H ⟨ok, g, e, f⟩ => ⟨ok, g, e, fun b vs H1 kb st ok1 pv => by
    have eg : ιx (er b) = g := Option.some.inj kb
    rw [← eg] at f
    refine ⟨by rw [← paired_len pv, hl], fun z => absurd z ne, fun _ d nd => ?_⟩
    have gr : Gr H1 (upd H1 d (.xd (ps.zip vs).reverse)) := Gr.new nd
    exact hN _ _ D f _ _ σ _ (st.fz.trans gr.fzs) ((ok1.hk.gr gr).less (hΔ b)) (hNx _ _ (ok1.nm.mono gr.fzs)) (hx b _ _ _ ⟨rfl, .inr ⟨ne, d, vs, rfl, upd_same, paired_mono (fun p v q => p.mono gr.fzs q) pv⟩⟩)⟩
def tOX {β : Type} (W : Bool) (F : Fm) (Γ : Gm) (Δ : Δs) (T : Option γ) (k : β → Option γ) (E : β → Od) (Δ' : β → Δs) (ιx : ε → γ) (Kx : Xk ε) (Wx : WX) : TE := fun σ H Q =>
  Ok F Γ Δ σ H ∧ ∃ g, T = some g ∧ (∀ b v H', k b = some g → St W H H' → OkN W F Γ H v (E b) (Δ' b) σ H' → Q v H') ∧ ∀ e, g = ιx e → ∀ cls d H', St W H H' → Ok F Γ Δ σ H' → Kx.ok e cls d H' → Wx cls d σ H'
def xE {ε : Type} (Kx : Xk ε) (e : ε) (H : Hp) (E : XK) : Prop := ∀ cls d H', Hk ⟨H, []⟩ [] H' → Kx.ok e cls d H' → E cls d H'
def SpXo {α ρ : Type} (A : α → List Pd) (Mf : α → Option (Except ε ρ)) (Ro : ρ → Od) (Kx : Xk ε) : Sp := fun vs H Q E => ∃ a : α, Paired (fun p v => Pd.pr p H v) (A a) vs ∧ ∃ g, Mf a = some g ∧ match g with | .ok r => RO ⟨H, []⟩ (fun _ => []) Ro r Q | .error e => xE Kx e H E
def wE (E : XK) : WX := fun cls d _ H => E cls d H
theorem fn_Xo {P : Program} {w : World} {K : PySem.W.Frag} {mg : Str → Option Value} {base : Heap} {x qual : Str} {params : Arguments} {body : List Stmt} {scope : Scope} {dvs : List V} {kws : List (Str × V)} {f : Addr} {fd : FuncData} {Nn ps : List Str} {k n : Nat} {α ρ : Type} {A : α → List Pd} {Mf : α → Option (Except ε ρ)} {Ro : ρ → Od}
    (FD : FunD K x qual params body scope dvs kws f fd) (S : FnScope Nn ps scope) (hn : ∀ a, (A a).length = n) (hl : n = ps.length)
    (hb : ∀ (cdv : Value) (Ar : Around) (outer : List Env) (s : Shared) (H : Hp) (E : XK) (hr : Room k (Ar.deeper (envOfC qual scope s.heap.objs.size f cdv))) (a : α), Takes (cxOf (L2.CX P w) P w K mg base Nn qual scope f cdv Ar outer s H E) (wE E) → PSs (cxOf (L2.CX P w) P w K mg base Nn qual scope f cdv Ar outer s H E) body
      (tS ⟨H, []⟩ ((A a).map some ++ List.replicate (Nn.length - n) none) [] (fX Kx (fF (RO ⟨H, []⟩ (fun _ => []) Ro)) ⟨H, []⟩ [] (fun _ _ => True) (wE E)) (Mf a))) : FnOk P w K mg base (L2.CX P w) (k + 1) f fd ps (SpXo A Mf Ro Kx) := by
  refine FD.ok S (fun vs H Q E h => ?_) (fun cdv Ar outer s H vs Q E hr h => ?_)
  · obtain ⟨a, pv, _⟩ := h
    rw [← paired_len pv, hn, hl]
  · obtain ⟨a, pv, g, hM, fin⟩ := h
    refine ⟨_, hb cdv Ar outer s H E hr a (takes_of rfl rfl rfl rfl), ok_start (Δ := []) (by rw [← paired_len pv, hn]) pv (fun _ h => nomatch h) List.nodup_nil (fun _ _ h => nomatch h), g, hM, ?_⟩
    cases g with
    | ok r => exact fin
    | error e => exact fun cls d σ H' _ hk _ q => fin cls d H' hk q
def okx {ε ρ : Type} : Except ε ρ → Option ρ
  | .ok r => some r
  | .error _ => none
def xK {ε ρ γ : Type} (ιx : ε → γ) (k : ρ → Option γ) : Except ε ρ → Option γ
  | .ok r => k r
  | .error e => some (ιx e)
section
variable {f : Addr} {fd : FuncData} {kk : Nat} {α ρ β : Type} {A : α → List Pd} {Mf : α → Option (Except ε ρ)} {xs : β → α} {T : Option γ} {e : Expr} {es : List Expr}
theorem x_Xo {Ro : ρ → Od} {kc : β × ρ → Option γ} (G : FnOk X.prog X.w X.K X.mg X.base (L2.CX X.prog X.w) kk f fd ps (SpXo A Mf Ro Kx)) (tk : Takes X Wx) (hr : Room kk X.A) (hm : X.mg x = some (.ref f)) (hk : PySem.W.keepIn X.K (.ref f) = true) (hb : Binds X.K fd ps [])
    (ha : PA X (e :: es) (tAr W F Γ Δ T (fun b => (Mf (xs b)).bind (xK ιx fun r => kc (b, r))) (fun b => A (xs b)) fun _ => Δ)) (hg : Gl X x := by rfl) (hdb : (x == ("__debug__" : Str)) = false := by decide)
    (he : starEach (e :: es) X.env = (false, eval e X.env) :: starEach es X.env := by rfl) (hpl : (backTo pos (starEach es X.env)).any (·.1) = false := by rfl) :
    PE X (.Call (.Name x p) (e :: es) [] pos) (tOX W F Γ Δ T kc (fun b => Ro b.2) (fun _ => Δ) ιx Kx Wx) :=
  (pe_callS G hr hg hm hk hb (fun σ => passAt tk σ) ha hdb he hpl).wk fun σ H Q ⟨ok, g, e, q, qx⟩ => ⟨ok, g, e, fun b vs H1 kb st ok1 pv => by
    obtain ⟨w, ew, kw⟩ := bind_some kb
    refine ⟨xs b, pv, w, ew, ?_⟩
    cases w with
    | ok r =>
      intro v H' hk
      obtain ⟨ok', st'⟩ := call_o0 (W := W) ok1 hk
      exact q (b, r) v H' kw (st.trans st') (ok'.since st)
    | error er =>
      intro cls d H' hk hx
      obtain ⟨ok', st'⟩ := call_f0 (W := W) ok1 hk
      exact qx er (Option.some.inj kw).symm cls d H' (st.trans st') ok' hx⟩
theorem takes_no : Takes X (fun _ _ _ _ => False) := fun _ _ ⟨_, _, _, _, _, _, _, _, _, _, _, _, _, _, _, _, w⟩ => w.elim
theorem pass_no : Passes (L2.CX X.prog X.w) X (fun _ _ _ => False) := passes_call takes_no fun _ _ _ _ h => h
theorem x_Zo {Ro : ρ → Od} {kc : β × ρ → Option γ} {Δ1 : β → Δs} (G : FnOk X.prog X.w X.K X.mg X.base (L2.CX X.prog X.w) kk f fd ps (SpXo A Mf Ro Kx)) (hr : Room kk X.A) (hm : X.mg x = some (.ref f)) (hk : PySem.W.keepIn X.K (.ref f) = true) (hb : Binds X.K fd ps [])
    (ha : PA X (e :: es) (tAr W F Γ Δ T (fun b => ((Mf (xs b)).bind okx).bind fun r => kc (b, r)) (fun b => A (xs b)) Δ1)) (hg : Gl X x := by rfl) (hdb : (x == ("__debug__" : Str)) = false := by decide)
    (he : starEach (e :: es) X.env = (false, eval e X.env) :: starEach es X.env := by rfl) (hpl : (backTo pos (starEach es X.env)).any (·.1) = false := by rfl) :
    PE X (.Call (.Name x p) (e :: es) [] pos) (tO W F Γ Δ T kc (fun b => Ro b.2) (fun b => Δ1 b.1)) :=
  (pe_call G hr hg hm hk hb .nil pass_no ha hdb he hpl).wk fun σ H Q ⟨ok, g, e, q⟩ => ⟨ok, g, e, fun b vs H1 kb st ok1 pv => by
    obtain ⟨r, er, kr⟩ := bind_some kb
    obtain ⟨w, ew, kw⟩ := bind_some er
    rw [List.append_nil]
    refine ⟨xs b, pv, w, ew, ?_⟩
    cases w with
    | ok r' =>
      cases kw
      intro v H' hk
      obtain ⟨ok', st'⟩ := call_o0 (W := W) ok1 hk
      exact q (b, _) v H' kr (st.trans st') (ok'.since st)
    | error er => cases kw⟩
end
section
variable {rest : List Stmt} {β : Type} {T : Option γ} {kc : β → Option γ} {Δ' : β → Δs} {e : Expr}
theorem s_exprOX {E : β → Od} (he : PE X e (tOX true F Γ Δ T kc E Δ' ιx Kx Wx)) (hN : Ex N ιx Kx F Δx Nx Wx) (hΔ : Δx.Sublist Δ) (hNx : ∀ σ H, Nm Γ σ H → Nx σ H) (hr : ∀ b, PSs X rest (tS F Γ (Δ' b) N (kc b))) (hs : swapsWith e none pos.line X.env = pure false := by rfl) :
    PSs X (.Expr e pos :: rest) (tS F Γ Δ N T) :=
  (pss_cons (ps_expr he hs) (pss_ex hr)).wk fun D σ H ⟨ok, g, e, f⟩ => ⟨ok, g, e, fun b v H' kb fz ok' => ⟨b, ok'.ok.less (List.sublist_cons_self _ _), g, kb, N.mono f fz.fz⟩, fun er eg cls d H' st ok' hx => by
    subst eg
    exact hN _ _ D f cls d σ H' st.fz (ok'.hk.less hΔ) (hNx _ _ ok'.nm) hx⟩
theorem s_letOX {i : Nat} {y : Str} {pos' : Pos} {α : Type} {val : β → α} {k2 : β → α → Option γ} (D0 : α → Od) (nd : X.N.Nodup) (he : PE X e (tOX true F Γ Δ T (fun b => (some (val b)).bind (k2 b)) (fun b => D0 (val b)) Δ' ιx Kx Wx)) (hN : Ex N ιx Kx F Δx Nx Wx) (hΔ : Δx.Sublist Δ) (hNx : ∀ σ H, Nm Γ σ H → Nx σ H)
    (hr : ∀ b a v, PSs X rest (tS F (Γ.set i (some (pV v))) (⟨v, D0 a, none⟩ :: Δ' b) N (k2 b a))) (hi : X.N[i]? = some y := by rfl) (hx : Loc X.env.scope y := by first | exact .inl rfl | exact .inr rfl)
    (hs : swapsWith e (some (.Name y pos')) pos.line X.env = pure false := by rfl) (hf : X.fn y = true ∨ X.env.scope.names.lookup y = some .local := by first | exact .inl rfl | exact .inr rfl | assumption) :
    PSs X (.Assign [.Name y pos'] e pos :: rest) (tS F Γ Δ N T) :=
  (pss_cons (ps_set nd hi hx he hs hf) (pss_ex fun b => pss_ex fun v => hr b (val b) v)).wk fun D σ H ⟨ok, g, e, f⟩ => ⟨ok, g, e, fun b v H' kb fz ok' => ⟨b, v, ok'.ok.set rfl, g, kb, N.mono f fz.fz⟩, fun er eg cls d H' st ok' hx => by
    subst eg
    exact hN _ _ D f cls d σ H' st.fz (ok'.hk.less hΔ) (hNx _ _ ok'.nm) hx⟩
end
end
end L3
end
section
set_option maxHeartbeats 4000000
set_option autoImplicit true
namespace L3
open PySem PySem.Spec PyProof.Rows L2 PySem.SxX
def pExc {ε : Type} (Kx : Xk ε) (a : Addr) (cls : Value) (d : Option Addr) (e : ε) : Pd := ⟨fun H v => v = .ref a ∧ Kx.ok e cls d H, fun f h => ⟨h.1, Kx.mono f h.2⟩⟩
def tryK {S τ ε γ : Type} (k2 : S → Option γ) (ι : τ → γ) (m : ε → Bool) (TS : ε → Option (Bo S τ)) (Ke : ε → Option γ) : Bo S (Except ε τ) → Option γ
  | .nx s => k2 s
  | .tm (.ok t) => some (ι t)
  | .tm (.error e) => if m e = true then (TS e).bind (boK k2 ι) else Ke e
def Ends.un (D : Ends) (i : Nat) : Ends := { nx := fun σ' H' => D.nx (σ'.set i none) H', rt := D.rt, bk := fun σ' H' => D.bk (σ'.set i none) H', ct := fun σ' H' => D.ct (σ'.set i none) H' }
def Uns {τ : Type} (i : Nat) (Tf : Fn τ) : Prop := ∀ H t D, Tf.fin H t D → Tf.fin H t (Ends.un D i)
theorem uns_F {ρ : Type} {i : Nat} (R : Rt ρ) : Uns i (fF R) := fun _ _ _ h => h
theorem Ok.unset {F : Fm} {Γ : Gm} {Δ : Δs} {σ : SS} {H : Hp} {i : Nat} (k : Ok F Γ Δ σ H) (h : Γ[i]? = some none) : Ok F Γ Δ (σ.set i none) H :=
  ⟨k.hk, by rw [List.length_set]; exact k.len, fun j q e => by
    have hj : j ≠ i := fun z => by rw [z, h] at e; cases e
    rw [List.getElem?_set_ne (fun z => hj z.symm)]
    exact k.gam j q e⟩
section
variable {X : Cx} {W : Bool} {F : Fm} {Γ : Gm} {Δ : Δs} {γ ε : Type} {Kx : Xk ε}
theorem s_try_as {S τ : Type} {N : Fn γ} {Tf : Fn τ} {ι : τ → γ} {i : Nat} {x n : Str} {c : Value} {body suite rest : List Stmt} {b₀ : Stmt} {np pos pos' : Pos} {Wout : WX} {T : Option γ} {TB : Option (Bo S (Except ε τ))} {k2 : S → Option γ} {m : ε → Bool} {TS : ε → Option (Bo S τ)} {Ke : ε → Option γ}
    (C : S → Cxt) (Γx : Gm) (Δx : Δs) (hN : X.N.Nodup) (hc : Names X x c) (tk : Takes X Wout) (hm : ∀ e cls d H, Kx.ok e cls d H → PySem.W.exmOne X.K cls c = some (m e))
    (hT : T = TB.bind (tryK k2 ι m TS Ke))
    (hb : ∀ (W : WX) (pn : List (Addr × Obj)) (xe : Value → Shared → Prop), Takes (X.tr pn xe) W → PassesOwn (model X.prog X.w) X.A X.env xe → PSs (X.tr pn xe) body (tS F Γ Δ (fB F C (fX Kx Tf F Δx (Nm Γx) W)) TB))
    (hsu : ∀ (a : Addr) (oe : Obj) (cls : Value) (d : Option Addr) (pn : List (Addr × Obj)), Zc cls d oe → (∃ vs, oe.data = .fields vs) → ∀ e, PSs (X.suite a ((a, oe) :: pn)) (b₀ :: suite) (tS F (Γx.set i (some (pExc Kx a cls d e))) Δx (fB F C Tf) (TS e)))
    (hr : ∀ s, PSs X rest (tS F (C s).1 (C s).2 N (k2 s))) (hι : ∀ H t D, N.fin H (ι t) D → Tf.fin H t D) (hI : Ins Tf) (hU : Uns i Tf) (hCi : ∀ s, (C s).1[i]? = some none) (hE : ∀ e g H D, m e = false → Ke e = some g → N.fin H g D → xOut Kx F Δx (Nm Γx) Wout e H)
    (hs : X.stack = X.env :: X.outer := by rfl) (hf : X.env.frame = some X.env.locals := by rfl) (hi : X.N[i]? = some n := by rfl) (hln : X.env.kindOf n = some .local := by rfl) :
    PSs X (.Try body [.ExceptHandler (some (.Name x np)) (some n) (b₀ :: suite) pos'] [] [] pos :: rest) (tS F Γ Δ N T) :=
  (pss_cons (ps_try_as hs hf hN hi hln hc tk (tb := fun W => tS F Γ Δ (fB F C (fX Kx Tf F Δx (Nm Γx) W)) TB) hb (ts := fun a cls d D σ H => ∃ e, tS F (Γx.set i (some (pExc Kx a cls d e))) Δx (fB F C Tf) (TS e) D σ H) fun a oe cls d pn hz hf => pss_ex fun e => hsu a oe cls d pn hz hf e) (pss_ex hr)).wk fun D σ H ⟨ok, g, e, f⟩ => by
    rw [hT] at e
    obtain ⟨o, eo, ko⟩ := bind_some e
    refine ⟨ok, o, eo, ?_⟩
    cases o with
    | nx s => exact fun σ' H' fz ok' => ⟨s, ok', g, ko, N.mono f fz⟩
    | tm t =>
      cases t with
      | ok t =>
        have eg : ι t = g := Option.some.inj ko
        subst eg
        exact hI _ _ _ _ (hι _ _ D f)
      | error er =>
        intro cls d σ' H' fz hk nm hx
        have ko : (if m er = true then (TS er).bind (boK k2 ι) else Ke er) = some g := ko
        refine ⟨m er, hm er cls d H' hx, fun hmt a na => ?_, fun hmf => ?_⟩
        · rw [if_pos hmt] at ko
          obtain ⟨o2, eo2, ko2⟩ := bind_some ko
          refine ⟨er, (show Ok F Γx Δx σ' H' from ⟨hk, nm⟩).set (p := pExc Kx a cls d er) ⟨rfl, hx⟩, o2, eo2, ?_⟩
          cases o2 with
          | nx s => exact fun σ2 H2 fz2 ok2 => ⟨s, ok2.unset (hCi s), g, ko2, N.mono f (fz.trans fz2)⟩
          | tm t =>
            have eg : ι t = g := Option.some.inj ko2
            subst eg
            exact hU _ _ _ (hI _ _ _ _ (hι _ _ D (N.mono f fz)))
        · rw [hmf, if_neg Bool.false_ne_true] at ko
          exact hE er g H D hmf ko f cls d σ' H' fz hk nm hx
end
def rIsX (K : PySem.W.Frag) (a : Addr) (cls : Value) (d : Option Addr) : List V → Hp → VK → Prop := fun xs H Q => ∃ (D : Addr) (c : V) (b : Bool), xs = [.ref a, c] ∧ cls = .ref D ∧ ExcC K D ∧ (d = none ∨ ∃ dd fs, d = some dd ∧ H dd = some (.xd fs)) ∧
  ((∃ cv, ClsV c cv ∧ PySem.W.kitOne K (.ref D) cv = some b) ∨ ∃ tp cs us, c = .ref tp ∧ H tp = some (.tup cs) ∧ Paired ClsV cs us ∧ PySem.W.kitAny K (.ref D) us = some b) ∧ Q (.bl b) H
theorem call_isX {X : Cx} {a : Addr} {oe : Obj} {cls : Value} {d : Option Addr} {pn : List (Addr × Obj)} (hz : Zc cls d oe) (hf : ∃ vs, oe.data = .fields vs) : CallR (X.suite a ((a, oe) :: pn)) (.builtin "isinstance") (rIsX X.K a cls d) := by
  intro pins s σ H xs us Q I r h
  obtain ⟨D, c, b, rfl, rfl, C, hd, hk, q⟩ := h
  obtain ⟨u1, u2, rfl, r1, r2⟩ := vals2 r
  cases (show u1 = Value.ref a from r1)
  obtain ⟨hget, _⟩ := I.pin (a, oe) (List.mem_append.mpr (.inl List.mem_cons_self))
  obtain ⟨vs, hv⟩ := hf
  obtain ⟨od, J⟩ : ∃ od, PySem.W.InstAt s.heap a oe D od := by
    rcases hd with e | ⟨dd, fs, e, ed⟩
    · refine ⟨none, hget, hz.1, by unfold PySem.W.notCls; rw [hv] <;> rfl, by rw [hz.2, e]; exact trivial⟩
    · obtain ⟨mA, hns, _⟩ := (show ObjOk X.prog X.w H s.heap dd (.xd fs) from I.hok dd _ ed)
      obtain ⟨oD, ho, _⟩ := lookIn_ns hns
      exact ⟨some oD, hget, hz.1, by unfold PySem.W.notCls; rw [hv] <;> rfl, by rw [hz.2, e]; exact ho⟩
  have Z := PySem.W.kitx_exc (K := X.K) (x := a) (ox := oe) (od := od) (C := D) (by obtain ⟨cd, hc, _⟩ := PySem.W.any_some C.hd; rw [hc]; rfl) C.hg C.hk C.hs C.ha C.hn C.ht C.hm
  rcases hk with ⟨cv, k, e⟩ | ⟨tp, cs, us, rfl, hT, k, e⟩
  · cases k.eq r2
    exact PySem.W.kia_one Z I.kIn J e (fun z => nomatch z) fun tk => ⟨.bl b, H, I.kept (t' := tk) fun _ _ z => z, rfl, q⟩
  · cases (show u2 = Value.ref tp from r2)
    obtain ⟨_, its, rv, o, h1, h2, n, h3⟩ := (show ObjOk X.prog X.w H s.heap tp (.tup cs) from I.hok tp _ hT)
    have e3 := ClsV.all k rv
    subst e3
    obtain ⟨oc, od, dt, sl⟩ := o
    simp only at h2 h3
    subst h2 h3
    exact PySem.W.kia_tup Z I.kIn J h1 e (fun z => nomatch z) fun tk => ⟨.bl b, H, I.tok tk, rfl, q⟩
def FV.int? : FV → Option Int
  | .int x => some x
  | _ => none
def fieldTab : List (Str × List Str) := [("UnknownName", ["name"]), ("RepeatedName", ["name"]), ("UnknownValue", ["name", "value"]), ("RepeatedValue", ["value"]), ("UnknownKey", ["key"]), ("RepeatedKey", ["key"]), ("EmptyRule", []), ("BadRow", ["row"]), ("BadBounds", ["low", "high"]), ("BadNumber", ["number"]), ("BadStep", ["position"]),
  ("NoMark", ["number"]), ("NotStruck", ["name", "value"]), ("BadOrder", ["names"]), ("NotBare", ["found"]), ("NoClash", []), ("HoldsAnswer", ["answer"]), ("BadLine", ["number", "fault"]), ("UnknownLine", ["number"]), ("BadText", ["number"]), ("NothingToUndo", []), ("NothingToRedo", []), ("UnknownStep", ["number"]), ("BadDeed", ["position"])]
def fieldsOf (c : Str) : List Str := (fieldTab.lookup c).getD []
theorem fields_nd (c : Str) : (fieldsOf c).Nodup := by
  have h : ∀ p ∈ fieldTab, p.2.Nodup := by decide +kernel
  unfold fieldsOf
  cases e : fieldTab.lookup c with
  | none => exact List.nodup_nil
  | some l =>
    have : ∀ {t : List (Str × List Str)}, t.lookup c = some l → ∃ p ∈ t, p.2 = l := by
      intro t
      induction t with
      | nil => intro h; cases h
      | cons p t ih =>
        intro h
        obtain ⟨a, b⟩ := p
        rw [List.lookup_cons] at h
        split at h
        · cases h; exact ⟨_, List.mem_cons_self, rfl⟩
        · obtain ⟨q, hq, e⟩ := ih h
          exact ⟨q, List.mem_cons_of_mem _ hq, e⟩
    obtain ⟨p, hp, e2⟩ := this e
    rw [← e2]
    exact h p hp
def gaM (mg : Str → Option Value) (x : Str) : Addr := match mg x with
  | some (.ref a) => a
  | _ => 0
def clsU (mg : Str → Option Value) (x : Str) : Value := match mg x with
  | some (.ref a) => .ref a
  | _ => .type "ValueError"
def clsW (mg : Str → Option Value) (x : Str) : V := match mg x with
  | some (.ref a) => .ref a
  | _ => .ty "ValueError"
theorem cls_VU (mg : Str → Option Value) (x : Str) : ClsV (clsW mg x) (clsU mg x) := by
  unfold clsW clsU
  split
  · exact .own _
  · exact .ty _
def erX (mg : Str → Option Value) (rs : List Str) : Xk Er := ⟨fun e cls d H => e.cn ∈ rs ∧ exC (gaM mg e.cn) (fieldsOf e.cn) (e.fs.map FV.p) cls d H, fun f h => ⟨h.1, exC_mono f h.2⟩⟩
def erF (e : Er) (f : Str) : Option FV := ((fieldsOf e.cn).zip e.fs).lookup f
structure XcT (P : Program) (K : PySem.W.Frag) (mg : Str → Option Value) (x : Str) : Prop where
  g : mg x = some (.ref (gaM mg x))
  tx : ∃ fI, SxTxt P K (gaM mg x) fI (fieldsOf x)
  ec : ExcC K (gaM mg x)
  xf : XfC K (gaM mg x)
structure XsT (P : Program) (K : PySem.W.Frag) (mg : Str → Option Value) (rs cs : List Str) : Prop where
  sup : mg "super" = none
  x : ∀ x ∈ rs, XcT P K mg x
  own : ∀ y ∈ cs, y = "ValueError" ∧ mg y = none ∨ mg y = some (.ref (gaM mg y))
  kit : ∀ x ∈ rs, ∀ y ∈ cs, PySem.W.kitOne K (.ref (gaM mg x)) (clsU mg y) = some (subC x y)
  exm : ∀ x ∈ rs, ∀ y ∈ cs, PySem.W.exmOne K (.ref (gaM mg x)) (clsU mg y) = some (subC x y)
theorem XsT.names {P : Program} {rs cs : List Str} {X : Cx} (T : XsT P X.K X.mg rs cs) {y : Str} (hy : y ∈ cs) (hg : Gl X y := by rfl) (hd : (y == ("__debug__" : Str)) = false := by decide) (hn : y ≠ "__name__" := by decide) : Names X y (clsU X.mg y) := by
  refine ⟨hg, hd, ?_⟩
  unfold clsU
  rcases T.own y hy with ⟨e, h⟩ | h
  · rw [h]; subst e
    exact .inr ⟨rfl, by decide +kernel, hn⟩
  · rw [h]; exact .inl rfl
section
variable {X : Cx} {W : Bool} {F : Fm} {Γ : Gm} {Δ : Δs} {γ : Type} {P : Program} {rs cs : List Str}
theorem x_cls {k : Unit → Option γ} {y : Str} {pos : Pos} (T : XsT P X.K X.mg rs cs) (hy : y ∈ cs) (hg : Gl X y := by rfl) (hd : (y == ("__debug__" : Str)) = false := by decide) (hn : y ≠ "__name__" := by decide) : PE X (.Name y pos) (tE W F Γ Δ (k ()) k (fun _ => pV (clsW X.mg y)) fun _ => Δ) := by
  have h : PE X (.Name y pos) (tC (clsW X.mg y)) := by
    unfold clsW
    rcases T.own y hy with ⟨e, h⟩ | h
    · rw [h]; subst e
      exact pe_bltn hg h (by decide +kernel) rfl hn hd
    · rw [h]; exact pe_glob hg h rfl hd
  exact h.wk fun σ H Q ⟨ok, g, e, q⟩ => q () _ H e (St.refl H) ok rfl
variable {a : Addr} {oe : Obj} {cls : Value} {d : Option Addr} {pn : List (Addr × Obj)} {e : Er} {mg : Str → Option Value}
theorem exC_d {C : Addr} {ps : List Str} {pds : List Pd} {H : Hp} (h : exC C ps pds cls d H) : d = none ∨ ∃ dd fs, d = some dd ∧ H dd = some (.xd fs) := by
  obtain ⟨_, ⟨_, h⟩ | ⟨_, dd, vs, e, h, _⟩⟩ := h
  · exact .inl h
  · exact .inr ⟨dd, _, e, h⟩
theorem x_isE1 {β : Type} {T0 : Option γ} {k : β → Option γ} {Δ1 : β → Δs} {ne : Expr} {y : Str} {p1 p3 pos : Pos} (hz : Zc cls d oe) (hf : ∃ vs, oe.data = .fields vs) (T : XsT P X.K X.mg rs cs) (hy : y ∈ cs) (hm : X.mg "isinstance" = none) (h1 : PE (X.suite a ((a, oe) :: pn)) ne (tE W F Γ Δ T0 k (fun _ => pExc (erX X.mg rs) a cls d e) Δ1))
    (hg : Gl X "isinstance" := by rfl) (hgy : Gl X y := by rfl) (hdy : (y == ("__debug__" : Str)) = false := by decide) (hny : y ≠ "__name__" := by decide) (hs : starEach [ne, .Name y p3] X.env = (false, eval ne X.env) :: starEach [.Name y p3] X.env := by rfl) :
    PE (X.suite a ((a, oe) :: pn)) (.Call (.Name "isinstance" p1) [ne, .Name y p3] [] pos) (tE W F Γ Δ T0 k (fun _ => pBl (subC e.cn y)) Δ1) := by
  have h2 : ∀ b, PE (X.suite a ((a, oe) :: pn)) (.Name y p3) (tE W F Γ (Δ1 b) (k b) (fun _ : Unit => k b) (fun _ => pV (clsW X.mg y)) fun _ => Δ1 b) := fun b => x_cls (k := fun _ => k b) (X := X.suite a ((a, oe) :: pn)) T hy hgy hdy hny
  exact (b_callB (X := X.suite a ((a, oe) :: pn)) (call_isX hz hf) hg hm boot_isinstance (by decide) (by decide) hs (by rfl) (by rfl) _ _ h1 (pe_ex h2)).wk fun σ H Q ⟨ok, g, e', q⟩ => ⟨ok, g, e', fun b v H1 kb f ok1 hv => ⟨b, ok1, g, kb, fun _ w H2 kb2 f2 ok2 hw => by
    obtain ⟨ev, hin, hx⟩ := hv
    have hw : w = clsW X.mg y := hw
    subst ev hw
    have hx2 := exC_mono f2.fz hx
    exact ⟨_, _, _, rfl, hx2.1, (T.x _ hin).ec, exC_d hx2, .inl ⟨_, cls_VU X.mg y, T.kit _ hin y hy⟩, q b _ H2 kb (f.trans f2) ok2 rfl⟩⟩⟩
theorem zip_rev_V : ∀ {ps : List Str} {vs : List V}, ps.Nodup → ∀ {f : Str} {pds : List Pd} {fvs : List FV} {fv : FV} {H : Hp}, pds = fvs.map FV.p → Paired (fun p v => Pd.pr p H v) pds vs → (ps.zip fvs).lookup f = some fv → ∃ v, (ps.zip vs).reverse.lookup f = some v ∧ (FV.p fv).pr H v
  | [], _, _, f, pds, fvs, fv, H, _, _, h => by simp at h
  | p :: ps, vs, nd, f, pds, [], fv, H, _, _, h => by simp at h
  | p :: ps, vs, nd, f, pds, q :: fvs, fv, H, e, hp, h => by
    subst e
    cases hp with
    | @cons _ v _ vs r t =>
      rw [List.nodup_cons] at nd
      rw [List.zip_cons_cons, List.lookup_cons] at h
      rw [List.zip_cons_cons, List.reverse_cons, List.lookup_append]
      by_cases hf : f = p
      · subst hf
        simp only [beq_self_eq_true] at h
        cases h
        have hn : (ps.zip vs).reverse.lookup f = none := by
          rw [List.lookup_eq_none_iff]
          intro q hq
          have hq := List.mem_reverse.mp hq
          have := (List.of_mem_zip (show (q.1, q.2) ∈ ps.zip vs from hq)).1
          simp only [beq_eq_false_iff_ne, ne_eq, bne_iff_ne, Bool.not_eq_true]
          exact fun e => nd.1 (by rw [e]; exact this)
        rw [hn]
        exact ⟨v, by simp [List.lookup], r⟩
      · have hb : (f == p) = false := by simpa using hf
        rw [hb] at h
        obtain ⟨v', e', r'⟩ := zip_rev_V nd.2 (f := f) rfl t h
        exact ⟨v', by rw [e']; rfl, r'⟩
theorem x_erF {β : Type} {T0 : Option γ} {k : β × FV → Option γ} {Δ1 : β → Δs} {ne : Expr} {f : Str} {pos : Pos} (hz : Zc cls d oe) (hf : ∃ vs, oe.data = .fields vs) (T : XsT P X.K X.mg rs cs) (h1 : PE (X.suite a ((a, oe) :: pn)) ne (tE W F Γ Δ T0 (fun b => (erF e f).bind fun y => k (b, y)) (fun _ => pExc (erX X.mg rs) a cls d e) Δ1))
    (hb : attributeBase ne f X.env (eval ne X.env) = eval ne X.env := by rfl) : PE (X.suite a ((a, oe) :: pn)) (.Attribute ne f pos) (tE W F Γ Δ T0 k (fun b => FV.p b.2) fun b => Δ1 b.1) := by
  by_cases hin : e.cn ∈ rs ∧ f ∈ fieldsOf e.cn
  · obtain ⟨fI, tx⟩ := (T.x _ hin.1).tx
    exact (pe_xf (X := X) (T.x _ hin.1).xf (tx.noN f hin.2) hz hf h1 hb).wk fun σ H Q ⟨ok, g, e', q⟩ => ⟨ok, g, e', fun b v H1 kb fz ok1 hv => by
      obtain ⟨ev, _, hx⟩ := hv
      obtain ⟨y, ey, ky⟩ := bind_some kb
      obtain ⟨ec, ⟨en, _⟩ | ⟨_, dd, vs, ed, hd, hp⟩⟩ := hx
      · unfold erF at ey
        rw [en] at ey
        simp at ey
      · obtain ⟨v', el, hv'⟩ := zip_rev_V (fields_nd e.cn) rfl hp ey
        exact ⟨ev, ec, dd, _, v', ed, hd, el, q (b, y) v' H1 ky fz ok1 hv'⟩⟩
  · have he : ∀ {τ : Type} (kk : FV → Option τ), e.cn ∈ rs → (erF e f).bind kk = none := fun kk hr => by
      have hnf : f ∉ fieldsOf e.cn := fun z => hin ⟨hr, z⟩
      have : erF e f = none := by
        unfold erF
        rw [List.lookup_eq_none_iff]
        intro q hq
        have := (List.of_mem_zip (show (q.1, q.2) ∈ (fieldsOf e.cn).zip e.fs from hq)).1
        simp only [beq_eq_false_iff_ne, ne_eq, bne_iff_ne, Bool.not_eq_true]
        exact fun e => hnf (by rw [e]; exact this)
      rw [this]; rfl
    refine ⟨fun pins s σ H Q I ⟨ok, g, e', q⟩ => attr_of hb (thn (h1.run pins s σ H (fun _ _ => False) I ⟨ok, g, e', fun b v H1 kb fz ok1 hv => by
      obtain ⟨y, ey, _⟩ := bind_some kb
      have z := he (fun y => some y) hv.2.1
      rw [ey] at z
      cases z⟩) fun u s1 hh => ?_)⟩
    obtain ⟨_, _, _, _, z⟩ := hh
    exact z.elim
theorem x_fv {X : Cx} {a : Expr} {β α : Type} {T : Option γ} {k : β × α → Option γ} {Ee : α → Pd} {x : β → FV} {Δ1 : β → Δs} (c : FV → Option α) (hc : ∀ y z, c y = some z → FV.p y = Ee z) (ha : PE X a (tE W F Γ Δ T (fun b => (c (x b)).bind fun y => k (b, y)) (fun b => FV.p (x b)) Δ1)) : PE X a (tE W F Γ Δ T k (fun b => Ee b.2) fun b => Δ1 b.1) :=
  ha.wk fun σ H Q ⟨ok, g, e, q⟩ => ⟨ok, g, e, fun b v H' kb f ok' hv => by
    obtain ⟨y, ey, ky⟩ := bind_some kb
    have hv : (FV.p (x b)).pr H' v := hv
    rw [hc _ _ ey] at hv
    exact q (b, y) v H' ky f ok' hv⟩
theorem fv_int : ∀ y z, FV.int? y = some z → FV.p y = pInt z := fun y z h => by cases y <;> cases h <;> rfl
end
end L3
end
section
set_option maxHeartbeats 4000000
set_option autoImplicit true
namespace L3
open PySem PySem.Spec PyProof.Rows L2 PySem.SxX
theorem nm_wk {Γ Γ' : Gm} {σ : SS} {H : Hp} (k : Nm Γ σ H) (g : SubG Γ' Γ) : Nm Γ' σ H := ⟨k.len.trans g.len.symm, fun i p e => k.gam i p (g.get e)⟩
section
variable {X : Cx} {W : Bool} {F : Fm} {Γ : Gm} {Δ : Δs} {γ : Type} {N : Fn γ} {rest : List Stmt}
end
theorem XsT.exms {P : Program} {K : PySem.W.Frag} {mg : Str → Option Value} {rs cs : List Str} (T : XsT P K mg rs cs) {y : Str} (hy : y ∈ cs) : ∀ e cls d H, (erX mg rs).ok e cls d H → PySem.W.exmOne K cls (clsU mg y) = some (subC e.cn y) := fun e cls d H h => by
  rw [h.2.1]
  exact T.exm _ h.1 y hy
section
variable {X : Cx} {W : Bool} {F : Fm} {Γ : Gm} {Δ : Δs} {γ : Type}
section
variable {a b : Expr} {pos : Pos} {β1 β2 : Type} {T : Option γ} {k1 : β1 → Option γ} {k : β1 × β2 → Option γ} {Δ1 : β1 → Δs} {Δ2 : β1 → β2 → Δs}
end
end
end L3
end
section
set_option maxHeartbeats 4000000
set_option autoImplicit true
namespace L3
open PySem PySem.Spec PyProof.Rows L2 PySem.SxX
section
variable {X : Cx} {W : Bool} {F : Fm} {Γ : Gm} {Δ : Δs} {γ : Type} {P : Program} {rs cs : List Str}
variable {a : Addr} {oe : Obj} {cls : Value} {d : Option Addr} {pn : List (Addr × Obj)} {e : Er}
theorem x_tp2 {a b : Expr} {x1} {pos : Pos} {α1 α2 β : Type} {T : Option γ} {k : β → Option γ} {Δ1 : β → Δs} (E1 : α1 → Pd) (E2 : α2 → Pd) (x : β → α1) (y : β → α2) (ha : PA X [a, b] (tAr W F Γ Δ T k (fun b => [E1 (x b), E2 (y b)]) Δ1)) :
    PE X (.Tuple [a, b] x1 pos) (tE W F Γ Δ T k (fun b => pT2 E1 E2 (x b, y b)) Δ1) := x_tup2 ha E1 E2 x y (fun _ => rfl) (fun _ => rfl)
theorem pa_kd {β : Type} {es : List Expr} {T : Option γ} {k : β → Option γ} {E E' : β → List Pd} {Δ' : β → Δs} (h : PA X es (tAr W F Γ Δ T k E' Δ')) (hE : ∀ b, E b = E' b := by intro _; rfl) : PA X es (tAr W F Γ Δ T k E Δ') := by
  have e1 : E = E' := funext hE
  subst e1
  exact h
end
end L3
end
section
set_option maxHeartbeats 4000000
set_option autoImplicit true
namespace L3
open PySem PySem.Spec PyProof.Rows L2 PySem.SxX
open He (ga ma eqO eqO_ok ba)
theorem clsXB_ok {K : PySem.W.Frag} {C : Addr} (q : clsXB K C = true) : ∃ nm q N bs bm sn sub ab col dd k0 k1 k2 k3 k5, K.lookup C = some (excClassObj nm q C N bs bm true sn sub ab col dd k0 k1 k2 k3 k5 "ValueError.__new__") ∧ PySem.HandSPX.refsVE bm = true := by
  unfold clsXB at q
  split at q
  · rename_i dd cd sl ho
    split at q
    · rename_i C' bm k0 k1 k2 k3 n k5 hm hs
      simp only [Bool.and_eq_true, beq_iff_eq, Bool.not_eq_true'] at q
      obtain ⟨⟨⟨⟨rfl, rfl⟩, hdel⟩, hdi⟩, ht⟩ := q
      obtain ⟨nm, bs, mro, ns, qn, hd, sn, sub, ab, col, del⟩ := cd
      dsimp only at hm hdel hdi
      subst hm hdel hdi
      have hsl : sl = #[k0, k1, k2, k3, some (.builtin "ValueError.__new__"), k5] := by
        obtain ⟨l⟩ := sl
        simp only at hs
        rw [hs]
      subst hsl
      exact ⟨nm, qn, ns, bs, bm, sn, sub, ab, col, dd, k0, k1, k2, k3, k5, ho, ht⟩
    · cases q
  · cases q
structure XTx (P : Program) (d : XD) : Prop where
  few : d.ps.length ≤ 900
  top : (P.main.scope.names.lookup ("super" : Str)).isSome = false
  tx : ∃ (ar : Arg) (text : Str) (kk : Nat) (q0 q1 q2 q3 q4 q5 : Pos) (stores : List Stmt), d.body = .Expr (.Call (.Attribute (.Call (.Name "super" q1) [] [] q2) "__init__" q3) [.Constant (.str text) kk q0] [] q4) q5 :: stores ∧ Stores stores d.ps ∧
    (d.params.posonlyargs ++ d.params.args).head? = some ar ∧ ar.arg = "self" ∧ (q3.endLine == q4.line) = true
  s1 : d.scope.names.lookup ("super" : Str) = some .globalImplicit
  s2 : d.scope.names.lookup ("__class__" : Str) = some .free
  s3 : d.scope.names.lookup ("self" : Str) = some .local
  s4 : ∀ f ∈ d.ps, d.scope.names.lookup f = some .local
  s5 : d.scope.kind = .function
  s6 : d.scope.isCoroutine = false
  s7 : d.scope.isGenerator = false
  s8 : ∀ x ∈ d.scope.names, x.2 ≠ .cell
  nd : (("self" : Str) :: d.ps).Nodup
  bi : ∀ (doc pm : Value) (an : Option Addr) (cda ct : Value) (cc : Addr) (us : List Value), us.length = d.ps.length + 1 → bindArgs (PySem.W.ksFn "__init__" d.qual d.params d.body d.scope .none .none doc pm an cda ct cc) ⟨us, []⟩ = pure ((("self" : Str) :: d.ps).zip us)
theorem XD.sx {P : Program} {K : PySem.W.Frag} {d : XD} (e : fnXo K d.name = d.val) (c : d.ok P K = true) (t : XTx P d) : SxTxt P K (ga K d.name) (iAd K d.name) d.ps ∧ ExcC K (ga K d.name) ∧ XfC K (ga K d.name) := by
  obtain ⟨c1, c⟩ := ba c
  obtain ⟨c2, c⟩ := ba c
  obtain ⟨c3, c⟩ := ba c
  obtain ⟨c4, c⟩ := ba c
  obtain ⟨c5, c⟩ := ba c
  obtain ⟨c6, c⟩ := ba c
  obtain ⟨c7, c⟩ := ba c
  obtain ⟨c8, c⟩ := ba c
  obtain ⟨c9, c⟩ := ba c
  obtain ⟨c10, c⟩ := ba c
  obtain ⟨c11, c⟩ := ba c
  obtain ⟨c12, c⟩ := ba c
  obtain ⟨c13, c⟩ := ba c
  obtain ⟨c14, c⟩ := ba c
  obtain ⟨c15, c⟩ := ba c
  obtain ⟨c16, c⟩ := ba c
  obtain ⟨c17, c⟩ := ba c
  obtain ⟨c18, c19⟩ := ba c
  refine ⟨⟨clsXB_ok c1, eqO_ok c2, fun f hf => eqO_ok (List.all_eq_true.mp c3 f hf), eqO_ok c4, of_decide_eq_true c5, c6, of_decide_eq_true c7, of_decide_eq_true c8, of_decide_eq_true c9, eqO_ok c10, eqO_ok c11, t.few, t.top, ?_⟩, ⟨eqO_ok c13, eqO_ok c14, of_decide_eq_true c7, c15, eqO_ok c16, eqO_ok c17, of_decide_eq_true c18, of_decide_eq_true c19⟩, ⟨eqO_ok c13, eqO_ok c14, of_decide_eq_true c7, c15⟩⟩
  obtain ⟨ar, text, kk, q0, q1, q2, q3, q4, q5, stores, eb, st, ha, hs, hl⟩ := t.tx
  have bi := t.bi
  obtain ⟨dn, dq, dp, db, ds, dps⟩ := d
  dsimp only at *
  subst eb
  unfold fnXo XD.val at e
  unfold iniXB at c12
  dsimp only at e c12
  cases q : K.lookup (iAd K dn) with
  | none => rw [q] at c12; cases c12
  | some o =>
    obtain ⟨oc, od, dt, osl⟩ := o
    rw [q] at c12 e
    cases dt with
    | func fd =>
      obtain ⟨n1, n2, n3, n4, n5, n6, n7, n8, n9, n10, n11, n12, n13, n14, n15⟩ := fd
      simp only [Option.some.injEq, Prod.mk.injEq] at e
      obtain ⟨h1, h2, h3, h4, h5, h6, h7, h8⟩ := e
      subst h1 h2 h3 h4 h5 h6 h8
      dsimp only at c12
      cases n8 with
      | none =>
        cases n9 with
        | none =>
          cases n13 with
          | ref cda =>
            match n7, h7, c12 with
            | [(nm, cc)], h7, c12 =>
              have h7 : [nm] = [("__class__" : Str)] := h7
              obtain rfl : nm = ("__class__" : Str) := (List.cons.inj h7).1
              obtain ⟨k1, k2⟩ := ba c12
              obtain ⟨k2, k3⟩ := ba k2
              split at k2
              · rename_i ccl cdd vs ccs hk
                split at k2
                · rename_i file tf hv
                  split at k3
                  · rename_i cl cld C' csl hc
                    have eC : C' = ga K dn := beq_iff_eq.mp k3
                    subst eC
                    exact ⟨oc, od, n10, n11, n12, cda, n14, osl, cc, _, _, ar, text, kk, q0, q1, q2, q3, q4, q5, stores, _, ccl, cdd, vs, ccs, file, tf, cl, cld, csl, rfl, k1, st, ha, hs, hk, hv, k2, hl, hc, t.s1, t.s2, t.s3, t.s4, t.s5, t.s6, t.s7, t.s8, t.nd, fun s us hl => .of_eq (bi _ _ _ _ _ _ us hl)⟩
                  · cases k3
                · cases k2
              · cases k2
            | [], _, c12 => cases c12
            | _ :: _ :: _, _, c12 => cases c12
          | _ => cases c12
        | _ => cases c12
      | _ => cases c12
    | _ => cases c12
section
variable {P : Program} {fa : List He.Fa} {fn : List He.DefD} {xs : List XD} {rs cs : List Str} {K : PySem.W.Frag}
theorem SaysX.xc {mg : Str → Option Value} (c : SaysX P fa fn xs rs cs K) (i : Nat) {d : XD} (h : xs[i]? = some d) (t : XTx P d) (hg : mg d.name = some (.ref (ga K d.name))) (hp : d.ps = fieldsOf d.name) : XcT P K mg d.name := by
  have c2 := (ba (show ((xs.all fun d => d.ok P K) && tabB K rs cs) = true from congrArg (fun z : AlX => z.2.2) c)).1
  have e : xs.map (fun d => fnXo K d.name) = xs.map XD.val := congrArg (fun z : AlX => z.2.1) c
  have e2 : (xs.map fun d => fnXo K d.name)[i]? = (xs.map XD.val)[i]? := by rw [e]
  rw [List.getElem?_map, List.getElem?_map, h] at e2
  obtain ⟨z1, z2, z3⟩ := XD.sx (Option.some.inj e2) (List.all_eq_true.mp c2 d (List.mem_of_getElem? h)) t
  have eg : gaM mg d.name = ga K d.name := by unfold gaM; rw [hg]
  exact ⟨by rw [eg]; exact hg, ⟨_, by rw [eg, ← hp]; exact z1⟩, by rw [eg]; exact z2, by rw [eg]; exact z3⟩
theorem SaysX.xst {mg : Str → Option Value} (c : SaysX P fa fn xs rs cs K) (hsup : mg "super" = none) (hx : ∀ x ∈ rs, XcT P K mg x) (hr : ∀ x ∈ rs, mg x = some (.ref (ga K x))) (hc : ∀ y ∈ cs, y = "ValueError" ∧ mg y = none ∨ y ≠ "ValueError" ∧ mg y = some (.ref (ga K y))) : XsT P K mg rs cs := by
  have c2 := (ba (show ((xs.all fun d => d.ok P K) && tabB K rs cs) = true from congrArg (fun z : AlX => z.2.2) c)).2
  have eg : ∀ x, mg x = some (.ref (ga K x)) → gaM mg x = ga K x := fun x h => by unfold gaM; rw [h]
  have eu : ∀ y ∈ cs, clsU mg y = cU K y := fun y hy => by
    unfold clsU cU
    rcases hc y hy with ⟨e, h⟩ | ⟨e, h⟩
    · rw [h, if_pos e]
    · rw [h, if_neg e]
  have tb : ∀ x ∈ rs, ∀ y ∈ cs, PySem.W.kitOne K (.ref (gaM mg x)) (clsU mg y) = some (subC x y) ∧ PySem.W.exmOne K (.ref (gaM mg x)) (clsU mg y) = some (subC x y) := fun x hx y hy => by
    rw [eg x (hr x hx), eu y hy]
    obtain ⟨a, b⟩ := ba (List.all_eq_true.mp (List.all_eq_true.mp c2 x hx) y hy)
    exact ⟨of_decide_eq_true a, of_decide_eq_true b⟩
  refine ⟨hsup, hx, fun y hy => ?_, fun x hx y hy => (tb x hx y hy).1, fun x hx y hy => (tb x hx y hy).2⟩
  rcases hc y hy with h | ⟨_, h⟩
  · exact .inl h
  · exact .inr (by rw [eg y h]; exact h)
end
end L3
end
section
set_option maxHeartbeats 4000000
set_option autoImplicit true
namespace L3
open PySem PySem.Spec PyProof.Rows L2
section
variable {X : Cx} {F : Fm} {Γ : Gm} {Δ : Δs} {γ : Type}
variable {α β β3 δ : Type} {g : TG} {own : List (Str × Nat)} {T : Option γ} {k : β × List δ → Option γ} {Ex : α → Pd} {D : δ → Od} {bd : Gm → α → Gm} {xs : β → List α} {Δ1 : β → Δs} {f : β → α → Option δ} {y : β → α → β3 → δ}
end
section
variable {X : Cx} {W : Bool} {F : Fm} {Γ : Gm} {Δ : Δs} {γ : Type}
theorem x_tp3 {a b c : Expr} {x1} {pos : Pos} {α1 α2 α3 β : Type} {T : Option γ} {k : β → Option γ} {Δ1 : β → Δs} (E1 : α1 → Pd) (E2 : α2 → Pd) (E3 : α3 → Pd) (x : β → α1) (y : β → α2) (z : β → α3) (ha : PA X [a, b, c] (tAr W F Γ Δ T k (fun b => [E1 (x b), E2 (y b), E3 (z b)]) Δ1)) :
    PE X (.Tuple [a, b, c] x1 pos) (tE W F Γ Δ T k (fun b => pT3 E1 E2 E3 (x b, y b, z b)) Δ1) :=
  (pe_tup ha).wk fun σ H Q ⟨ok, g, e, w⟩ => ⟨ok, g, e, fun b vs H' kb f ok' hp => by
    obtain ⟨u1, u2, u3, e, r1, r2, r3⟩ := paired3 (show Paired (fun p v => Pd.pr p H' v) [E1 (x b), E2 (y b), E3 (z b)] vs from hp)
    subst e
    refine ⟨by show 3 ≤ sizeLine; decide, fun t nt => ?_⟩
    have g' : Gr H' (upd H' t (.tup [u1, u2, u3])) := Gr.new nt
    exact w b _ _ kb (f.trans g'.st) (ok'.gr g') ⟨t, u1, u2, u3, rfl, upd_same, (E1 _).mono g'.fzs r1, (E2 _).mono g'.fzs r2, (E3 _).mono g'.fzs r3⟩⟩
end
end L3
end
section
set_option maxHeartbeats 4000000
set_option autoImplicit true
namespace L3
open PySem PySem.Spec PyProof.Rows L2
def pSm {α β : Type} (E : α → Pd) (G : β → Pd) : α ⊕ β → Pd
  | .inl x => E x
  | .inr y => G y
def smR {α β : Type} : α ⊕ β → Option β
  | .inl _ => none
  | .inr y => some y
section
variable {X : Cx} {W : Bool} {F : Fm} {Γ : Gm} {Δ : Δs} {γ : Type} {α β α' : Type} {E : α → Pd} {G : α' → Pd}
theorem co_inl {e : Expr} {x : β → α} {T : Option γ} {k : β → Option γ} {Δ' : β → Δs} (he : PE X e (tE W F Γ Δ T k (fun b => E (x b)) Δ')) : PE X e (tE W F Γ Δ T k (fun b => pSm E G (.inl (x b))) Δ') := he
theorem co_inr {e : Expr} {x : β → α'} {T : Option γ} {k : β → Option γ} {Δ' : β → Δs} (he : PE X e (tE W F Γ Δ T k (fun b => G (x b)) Δ')) : PE X e (tE W F Γ Δ T k (fun b => pSm E G (.inr (x b))) Δ') := he
theorem x_inr {a : Expr} {T : Option γ} {k : β × α' → Option γ} {x : β → α ⊕ α'} {Δ1 : β → Δs} (ha : PE X a (tE W F Γ Δ T (fun b => (smR (x b)).bind fun y => k (b, y)) (fun b => pSm E G (x b)) Δ1)) : PE X a (tE W F Γ Δ T k (fun b => G b.2) fun b => Δ1 b.1) :=
  ha.wk fun σ H Q ⟨ok, g, e, q⟩ => ⟨ok, g, e, fun b v H' kb f ok' hv => by
    obtain ⟨y, ey, ky⟩ := bind_some kb
    have hv : (pSm E G (x b)).pr H' v := hv
    cases ex : x b with
    | inr z => rw [ex] at ey hv; cases ey; exact q (b, y) v H' ky f ok' hv
    | inl z => rw [ex] at ey; cases ey⟩
end
def deSm {α β : Type} {E : α → Pd} {G : β → Pd} (d : De E) (e : De G) : De (pSm E G) where
  dep := max d.dep e.dep
  ok x y := match x, y with
    | .inl x, .inl y => d.ok x y
    | .inr x, .inr y => e.ok x y
    | _, _ => false
  eqv x y := match x, y with
    | .inl x, .inl y => d.eqv x y
    | .inr x, .inr y => e.eqv x y
    | _, _ => false
  rc {X pins σ H s} I A hu x y h v u v' u' hv hw rv ru := by
    cases x with
    | inl x => cases y with
      | inl y => exact d.rc I A (by omega) x y h v u v' u' hv hw rv ru
      | inr y => cases h
    | inr x => cases y with
      | inl y => cases h
      | inr y => exact e.rc I A (by omega) x y h v u v' u' hv hw rv ru
  same H x y v h hv hw := by
    cases x with
    | inl x => cases y with
      | inl y => exact d.same H x y v h hv hw
      | inr y => cases h
    | inr x => cases y with
      | inl y => cases h
      | inr y => exact e.same H x y v h hv hw
def deT2 {α β : Type} {E : α → Pd} {G : β → Pd} (d : De E) (e : De G) : De (pT2 E G) where
  dep := max d.dep e.dep + 1
  ok x y := d.ok x.1 y.1 && e.ok x.2 y.2
  eqv x y := d.eqv x.1 y.1 && e.eqv x.2 y.2
  rc {X pins σ H s} I A hu x y h v u v' u' hv hw rv ru := by
    obtain ⟨h1, h2⟩ := Bool.and_eq_true_iff.mp h
    obtain ⟨a, p1, p2, rfl, ra, pa, pb⟩ := hv
    obtain ⟨b, q1, q2, rfl, rb, qa, qb⟩ := hw
    obtain rfl : v' = Value.ref a := rv
    obtain rfl : u' = Value.ref b := ru
    by_cases ab : a = b
    · subst ab
      rw [ra] at rb
      cases rb
      rw [d.same H _ _ _ h1 pa qa, e.same H _ _ _ h2 pb qb]
      exact (SeqAt.EqAt.same _).eqP
    · obtain ⟨us, r1, t1, _⟩ := I.tuple (xs := [p1, p2]) (.inl (.inl ra))
      obtain ⟨ws, r2, t2, _⟩ := I.tuple (xs := [q1, q2]) (.inl (.inl rb))
      cases r1 with
      | cons ra1 rr1 => cases rr1 with
        | cons ra2 rr2 => cases rr2 with
          | nil =>
            cases r2 with
            | cons rb1 ss1 => cases ss1 with
              | cons rb2 ss2 => cases ss2 with
                | nil =>
                  refine SeqAt.eqP_refs ab fun E Q q => SeqAt.rcIn_tuples (e := fun j => if j = 0 then d.eqv x.1 y.1 else e.eqv x.2 y.2) t1 t2 (by show A.units + 1 < cLine; omega) (fun j j1 j2 => ?_) ?_
                  · have j1 : j < 2 := j1
                    match j, j1 with
                    | 0, _ => exact d.rc I A.in1 (by show A.units + 1 + d.dep < cLine; omega) x.1 y.1 h1 _ _ _ _ pa qa ra1 rb1
                    | 1, _ => exact e.rc I A.in1 (by show A.units + 1 + e.dep < cLine; omega) x.2 y.2 h2 _ _ _ _ pb qb ra2 rb2
                  · have e2 : (List.range 2).all (fun j => if j = 0 then d.eqv x.1 y.1 else e.eqv x.2 y.2) = (d.eqv x.1 y.1 && e.eqv x.2 y.2) := by
                      show (_ && (_ && true)) = _
                      rw [Bool.and_true]; rfl
                    show Q (.bool ((List.range 2).all (fun j => if j = 0 then d.eqv x.1 y.1 else e.eqv x.2 y.2) && true)) s
                    rw [e2, Bool.and_true]
                    exact q
  same H x y v h hv hw := by
    obtain ⟨h1, h2⟩ := Bool.and_eq_true_iff.mp h
    obtain ⟨a, p1, p2, rfl, ra, pa, pb⟩ := hv
    obtain ⟨b, q1, q2, eb, rb, qa, qb⟩ := hw
    cases eb
    rw [ra] at rb
    cases rb
    rw [d.same H _ _ _ h1 pa qa, e.same H _ _ _ h2 pb qb]
    rfl
end L3
end
section
set_option maxHeartbeats 4000000
set_option autoImplicit true
namespace L3
open PySem PySem.Spec PyProof.Rows L2
section
variable {X : Cx} {W : Bool} {F : Fm} {Γ : Gm} {Δ : Δs} {γ : Type}
section
variable {a b : Expr} {pos : Pos} {β1 β2 α β : Type} {T : Option γ} {k1 : β1 → Option γ} {k : β1 × β2 → Option γ} {Δ1 : β1 → Δs} {Δ2 : β1 → β2 → Δs} {E : α → Pd} {G : β → Pd} {x : β1 → α × β} {y : β1 → β2 → α × β}
end
section
variable {a b : Expr} {pos : Pos} {β1 β2 α : Type} [DecidableEq α] {T : Option γ} {k1 : β1 → Option γ} {k : β1 × β2 → Option γ} {Δ1 : β1 → Δs} {Δ2 : β1 → β2 → Δs} {E : α → Pd} {x : β1 → α} {y : β1 → β2 → List α}
end
end
end L3
end
section
set_option maxHeartbeats 4000000
set_option autoImplicit true
namespace L3
open PySem PySem.Spec PyProof.Rows L2
section
variable {X : Cx} {W : Bool} {F : Fm} {Γ : Gm} {Δ : Δs} {γ : Type}
end
end L3
end
section
set_option maxHeartbeats 4000000
set_option autoImplicit true
namespace L3
open PySem PySem.Spec PyProof.Rows L2
section
variable {X : Cx}
end
section
variable {X : Cx} {F : Fm} {Γ : Gm} {Δ : Δs} {γ : Type} {κ δ : Type} [DecidableEq κ] [Ky κ]
variable {α β β2 β3 : Type} {g : TG} {own : List (Str × Nat)} {T : Option γ} {k : β × List (κ × δ) → Option γ} {Ex : α → Pd} {D : δ → Od} {bd : Gm → α → Gm} {xs : β → List α} {Δ1 : β → Δs} {f : β → α → Option (κ × δ)} {T2 : β → α → β2 → Option (κ × δ)} {ky : β → α → β2 → κ} {y : β → α → β2 → β3 → δ}
end
end L3
end
section
set_option maxHeartbeats 4000000
set_option autoImplicit true
namespace L3
open PySem PySem.Spec PyProof.Rows L2
theorem pHL_at {H : Hp} : ∀ {qs : List Pd} {vs : List V} {m : Nat} {p : Pd}, Paired (fun p u => Pd.pr p H u) qs vs → qs[m]? = some p → ∃ u, vs[m]? = some u ∧ p.pr H u
  | _, _, _, _, .nil, e => by simp at e
  | _, _, 0, _, .cons r _, e => by simp at e; subst e; exact ⟨_, rfl, r⟩
  | _, _, m + 1, _, .cons _ t, e => by
    obtain ⟨u, e1, e2⟩ := pHL_at (m := m) t (by simpa using e)
    exact ⟨u, by simpa using e1, e2⟩
section
variable {X : Cx} {W : Bool} {F : Fm} {Γ : Gm} {Δ : Δs} {γ : Type}
section
variable {a : Expr} {n} {p pos : Pos} {β α1 α2 α3 α4 : Type} {T : Option γ} {k : β → Option γ} {Δ1 : β → Δs} {A : α1 → Pd} {B : α2 → Pd} {C : α3 → Pd} {D : α4 → Pd}
end
end
def oSmPr {α β : Type} (A : α → Od) (B : β → Od) : α ⊕ β → List Addr → Hp → V → Prop
  | .inl a => (A a).pr
  | .inr b => (B b).pr
def oSm {α β : Type} (A : α → Od) (B : β → Od) (x : α ⊕ β) : Od where
  pr := oSmPr A B x
  pd := pSm (fun a => (A a).pd) (fun b => (B b).pd) x
  frame := fun {G H H' v} h k f => by
    cases x with
    | inl a => exact (A a).frame h k f
    | inr b => exact (B b).frame h k f
  cells := fun {G H v} h => by
    cases x with
    | inl a => exact (A a).cells h
    | inr b => exact (B b).cells h
  lockd := fun {G H H1 v} h h1 h2 => by
    cases x with
    | inl a => exact (A a).lockd h h1 h2
    | inr b => exact (B b).lockd h h1 h2
section
variable {X : Cx} {W : Bool} {F : Fm} {Γ : Gm} {Δ : Δs} {γ : Type}
end
section
variable {X : Cx} {W : Bool} {F : Fm} {Γ : Gm} {Δ : Δs} {γ : Type} {κ α δ : Type} [DecidableEq κ] [Ky κ] [DecidableEq α] [DecidableEq δ]
variable {a b : Expr} {pos : Pos} {β1 β2 : Type} {T : Option γ} {k1 : β1 → Option γ} {k : β1 × β2 → Option γ} {Δ1 : β1 → Δs} {Δ2 : β1 → β2 → Δs} {E : α → Pd} {G : δ → Pd} {x : β1 → List α ⊕ List (κ × δ)} {y : β1 → β2 → List α ⊕ List (κ × δ)}
end
end L3
end
section
set_option maxHeartbeats 4000000
set_option autoImplicit true
namespace L3
open PySem PySem.Spec PyProof.Rows L2
section
variable {X : Cx} {W : Bool} {F : Fm} {Γ : Gm} {Δ : Δs} {γ : Type}
end
section
variable {X : Cx} {W : Bool} {F : Fm} {Γ : Gm} {Δ : Δs} {γ : Type} {κ α δ : Type} [DecidableEq κ] [Ky κ] [DecidableEq α] [DecidableEq δ]
variable {a b : Expr} {pos : Pos} {β1 β2 : Type} {T : Option γ} {k1 : β1 → Option γ} {k : β1 × β2 → Option γ} {Δ1 : β1 → Δs} {Δ2 : β1 → β2 → Δs} {E : α → Pd} {G : δ → Pd} {x : β1 → List α ⊕ List (κ × δ)} {y : β1 → β2 → List α ⊕ List (κ × δ)}
end
end L3
end
section
set_option maxHeartbeats 4000000
set_option autoImplicit true
namespace L3
open PySem PySem.Spec PyProof.Rows L2
def oOpPr {α : Type} (D : α → Od) : Option α → List Addr → Hp → V → Prop
  | none => fun G _ v => G = [] ∧ v = .non
  | some x => (D x).pr
def oOp {α : Type} (D : α → Od) (o : Option α) : Od where
  pr := oOpPr D o
  pd := pOp (fun x => (D x).pd) o
  frame := fun {G H H' v} h k f => by
    cases o with
    | none => exact h
    | some x => exact (D x).frame h k f
  cells := fun {G H v} h => by
    cases o with
    | none =>
      obtain ⟨e, _⟩ := h
      subst e
      exact fun _ h => absurd h List.not_mem_nil
    | some x => exact (D x).cells h
  lockd := fun {G H H1 v} h h1 h2 => by
    cases o with
    | none => exact h.2
    | some x => exact (D x).lockd h h1 h2
section
variable {X : Cx} {W : Bool} {F : Fm} {Γ : Gm} {Δ : Δs} {γ : Type}
variable {N : Fn γ} {rest : List Stmt}
section
variable {κ α : Type} [DecidableEq κ] [Ky κ] {a b : Expr} {apos cpos : Pos} {β1 β2 : Type} {T : Option γ} {k1 : β1 → Option γ} {Δ1 : β1 → Δs} {Δ2 : β1 → β2 → Δs} {E1 : β1 → Pd} {Ee : α → Pd} {xs : β1 → β2 → List (κ × α)} {j : β1 → β2 → κ}
end
end
end L3
end
section
set_option maxHeartbeats 4000000
set_option autoImplicit true
namespace L3
open PySem PySem.Spec PyProof.Rows L2
section
variable {X : Cx} {W : Bool} {F : Fm} {Γ : Gm} {Δ : Δs} {γ : Type}
variable {N : Fn γ} {rest : List Stmt}
end
end L3
end
section
set_option maxHeartbeats 4000000
set_option autoImplicit true
namespace L3
open PySem PySem.Spec PyProof.Rows L2
section
variable {X : Cx} {pins : List (Addr × Obj)} {σ : SS} {H : Hp} {s : Shared} {a C dx : Addr} {fs : List (Str × V)} {f : Str} {v : V} {A : Around} {E : Value → Shared → Prop}
end
section
variable {X : Cx} {CX : CXT} {k : Nat} {f : Addr} {fd : FuncData} {ps : List Str} {sp : Sp} {E : XK} {m : Str} {pos apos : Pos} {e o : Expr} {es : List Expr} {ta : TE} {t : TA}
end
section
variable {X : Cx} {W : Bool} {F : Fm} {Γ : Gm} {Δ : Δs} {γ : Type}
variable {N : Fn γ} {rest : List Stmt}
end
section
variable {X : Cx} {W : Bool} {F : Fm} {Γ : Gm} {Δ : Δs} {γ : Type}
end
end L3
end
section
set_option maxHeartbeats 4000000
set_option autoImplicit true
namespace L3
open PySem PySem.Spec PyProof.Rows L2
section
variable {X : Cx} {W : Bool} {F : Fm} {Γ : Gm} {Δ : Δs} {γ : Type}
section
variable {a : Expr} {pos p : Pos} {β α : Type} {T : Option γ} {Δ1 : β → Δs} {E1 : β → Pd} {Ee : α → Pd} {xs : β → List α} {k : β → Option γ}
end
section
variable {a b : Expr} {pos : Pos} {β1 β2 α : Type} {T : Option γ} {k1 : β1 → Option γ} {Δ1 : β1 → Δs} {Δ2 : β1 → β2 → Δs} {E1 : β1 → Pd} {Ee : α → Pd} {xs : β1 → List α} {j : β1 → β2 → Int}
end
section
variable {a : Expr} {lo hi : Option Expr} {p2 pos : Pos} {β1 β2 β3 α : Type} {T : Option γ} {k1 : β1 → Option γ} {k2 : β1 → β2 → Option γ} {k : β1 × β2 × β3 → Option γ} {Ee : α → Pd} {xs : β1 → List α} {o1 : β1 → β2 → Option Int} {o2 : β1 → β2 → β3 → Option Int} {Δ1 : β1 → Δs} {Δ2 : β1 → β2 → Δs} {Δ3 : β1 → β2 → β3 → Δs}
end
section
variable {a b : Expr} {pos : Pos} {β1 β2 α : Type} {T : Option γ} {k1 : β1 → Option γ} {k : β1 × β2 → Option γ} {Δ1 : β1 → Δs} {Δ2 : β1 → β2 → Δs} {Ee : α → Pd} {xs : β1 → List α} {ys : β1 → β2 → List α}
end
section
variable {a b : Expr} {pos : Pos} {β1 β2 α : Type} [DecidableEq α] {T : Option γ} {k1 : β1 → Option γ} {k : β1 × β2 → Option γ} {Δ1 : β1 → Δs} {Δ2 : β1 → β2 → Δs} {E : α → Pd} {x : β1 → α} {y : β1 → β2 → List α}
end
section
variable {o e : Expr} {apos cpos : Pos} {β1 β2 : Type} {T : Option γ} {k1 : β1 → Option γ} {Δ1 : β1 → Δs} {Δ2 : β1 → β2 → Δs} {xs : β1 → List Str} {y : β1 → β2 → Str}
end
end
end L3
end
section
set_option maxHeartbeats 4000000
set_option autoImplicit true
namespace L3
open PySem PySem.Spec PyProof.Rows L2
section
variable {X : Cx} {W : Bool} {F : Fm} {Γ : Gm} {Δ : Δs} {γ : Type}
section
variable {a : Expr} {pos p : Pos} {β : Type} {T : Option γ} {Δ1 : β → Δs} {E1 : β → Pd} {xs : β → List (List Int)} {k : β × List Int → Option γ}
end
theorem s_never {st : List Stmt} {N : Fn γ} : PSs X st (tS F Γ Δ N (none : Option γ)) := ⟨fun _ _ _ _ _ _ ⟨_, _, e, _⟩ => nomatch e⟩
end
end L3
end
section
set_option maxHeartbeats 4000000
set_option autoImplicit true
namespace L3
open PySem PySem.Spec PyProof.Rows L2
open PySem.AutoSeq1 (wpAny_loadPart')
section
variable {prog : Program} {w : World} {A : Around} {E : Value → Shared → Prop} {s : Shared}
end
section
variable {X : Cx} {W : Bool} {F : Fm} {Γ : Gm} {Δ : Δs} {γ : Type}
section
variable {a b : Expr} {pos : Pos} {β1 β2 α : Type} [DecidableEq α] {T : Option γ} {k1 : β1 → Option γ} {k : β1 × β2 → Option γ} {Δ1 : β1 → Δs} {Δ2 : β1 → β2 → Δs} {E : α → Pd} {x : β1 → α} {y : β1 → β2 → List α} {E2 : β1 → β2 → Pd}
end
end
end L3
end
section
set_option maxHeartbeats 4000000
set_option autoImplicit true
namespace L3
open PySem PySem.Spec PyProof.Rows L2
section
variable {X : Cx} {W : Bool} {F : Fm} {Γ : Gm} {Δ : Δs} {γ : Type} {a : Expr} {n p pos} {β α1 α2 α3 α4 α5 : Type} {T : Option γ} {k : β → Option γ} {A1 : α1 → Pd} {A2 : α2 → Pd} {A3 : α3 → Pd} {A4 : α4 → Pd} {A5 : α5 → Pd} {Δ1 : β → Δs} {x : β → α1 × α2 × α3 × α4 × α5}
end
section
variable {X : Cx} {W : Bool} {F : Fm} {Γ : Gm} {Δ : Δs} {γ : Type} {a : Expr} {n p pos} {β α1 α2 α3 α4 α5 α6 : Type} {T : Option γ} {k : β → Option γ} {A1 : α1 → Pd} {A2 : α2 → Pd} {A3 : α3 → Pd} {A4 : α4 → Pd} {A5 : α5 → Pd} {A6 : α6 → Pd} {Δ1 : β → Δs} {x : β → α1 × α2 × α3 × α4 × α5 × α6}
end
section
variable {X : Cx} {W : Bool} {F : Fm} {Γ : Gm} {Δ : Δs} {γ : Type} {a : Expr} {n p pos} {β α1 α2 α3 α4 α5 α6 α7 : Type} {T : Option γ} {k : β → Option γ} {A1 : α1 → Pd} {A2 : α2 → Pd} {A3 : α3 → Pd} {A4 : α4 → Pd} {A5 : α5 → Pd} {A6 : α6 → Pd} {A7 : α7 → Pd} {Δ1 : β → Δs} {x : β → α1 × α2 × α3 × α4 × α5 × α6 × α7}
end
section
variable {X : Cx} {W : Bool} {F : Fm} {Γ : Gm} {Δ : Δs} {γ : Type}
section
variable {a : Expr} {n p p2 pos : Pos} {β α δ : Type} {T : Option γ} {k : β → Option γ} {E : α → Pd} {G : δ → Pd} {Δ1 : β → Δs}
end
variable {N : Fn γ} {rest : List Stmt}
end
end L3
end
section
set_option maxHeartbeats 4000000
set_option autoImplicit true
namespace L3
open PySem PySem.Spec PyProof.Rows L2 PySem.SxX
section
variable {X : Cx} {W : Bool} {F : Fm} {Γ : Gm} {Δ : Δs} {γ : Type}
end
section
variable {X : Cx} {CX : CXT} {k : Nat} {f C : Addr} {fd : FuncData} {ps : List Str} {sp : Sp} {x : Str} {p pos : Pos} {e : Expr} {es : List Expr} {t : TA}
end
section
variable {X : Cx} {W : Bool} {F : Fm} {Γ : Gm} {Δ : Δs} {γ ε : Type}
variable {fI : Addr} {kk : Nat} {fd : FuncData} {ps : List Str} {α ρ β : Type} {cn : Str} {A : α → List Pd} {Mf : α → Option (Except ε ρ)} {ns : List Str} {R : ρ → List Pd} {C : Addr} {p pos : Pos} {e : Expr} {es : List Expr} {T : Option γ} {xs : β → α} {kc : β × ρ → Option γ} {D : β × ρ → Od} {Kx : Xk ε}
end
section
variable {X : Cx} {F : Fm} {Γ : Gm} {Δ : Δs} {γ ε : Type} {N : Fn γ} {rest : List Stmt} {ιx : ε → γ} {Kx : Xk ε} {Δx : Δs} {Nx : SS → Hp → Prop} {Wx : WX}
end
end L3
end
section
set_option maxHeartbeats 4000000
set_option autoImplicit true
namespace L3
open PySem PySem.Spec PyProof.Rows L2
section
variable {X : Cx} {W : Bool} {F : Fm} {Γ : Gm} {Δ : Δs} {γ : Type}
end
section
variable {X : Cx} {W : Bool} {F : Fm} {Γ : Gm} {Δ : Δs} {γ : Type} {a : Expr} {pos p : Pos} {β : Type} {T : Option γ} {Δ1 : β → Δs} {E1 : β → Pd} {xs : β → List Int} {k : β × Int → Option γ}
end
end L3
end
section
set_option maxHeartbeats 4000000
set_option autoImplicit true
namespace L3
open PySem PySem.Spec PyProof.Rows L2 PySem.SxX
section
variable {X : Cx} {W : Bool} {F : Fm} {Γ : Gm} {Δ : Δs} {γ : Type}
theorem Ok.swap {σ : SS} {H H' H0 : Hp} {v v' : V} {d d' : Od} (ok : Ok F Γ (⟨v, d, none⟩ :: Δ) σ H) (g : Gr H H') (h : ∀ G, d.pr G H v → G.Nodup → ∃ G' : List Addr, G'.Nodup ∧ (∀ a ∈ G', a ∈ G ∨ H a = none) ∧ d'.pr G' H' v') : OkN true F Γ H0 v' d' Δ σ H' := by
  obtain ⟨⟨Δ0, e, k⟩, n⟩ := ok
  cases Δ0 with
  | nil => cases e
  | cons c0 R =>
    have e1 : c0.fg :: R.map Cel.fg = ⟨v, d, none⟩ :: Δ := e
    injection e1 with e2 e3
    subst e3
    obtain ⟨G, cv, cd, cp⟩ := c0
    have f1 : cv = v := congrArg Cell.v e2
    have f2 : cd = d := congrArg Cell.d e2
    have f3 : cp = none := congrArg Cell.prm e2
    subst f1 f2 f3
    obtain ⟨G', nd', sub, hd'⟩ := h G (k.del _ List.mem_cons_self) k.ndup.1
    refine ⟨R, G', rfl, ((k.gr g).less (.cons _ (List.Sublist.refl R))).cons (c := ⟨G', v', d', none⟩) nd' (fun a ha hb => ?_) hd' (fun a ha => ?_), (fun z => nomatch z), n.mono g.fzs⟩
    · rcases sub a ha with z | z
      · exact k.ndup.2.2 a z hb
      · obtain ⟨o, eo, _⟩ := k.isC (a := a) (by rw [cellsOf_cons]; exact List.mem_append_right _ hb)
        rw [z] at eo; cases eo
    · rcases sub a ha with z | z
      · exact k.own _ List.mem_cons_self a z
      · exact .inl (k.fresh0 z)
theorem Own3.take {α : Type} {D : α → Od} {H : Hp} : ∀ (m : Nat) {xs : List α} {vs : List V} {gs : List (List Addr)}, Own3 D H xs vs gs → ∃ g2, Own3 D H (xs.take m) (vs.take m) g2 ∧ g2.flatten.Sublist gs.flatten
  | 0, _, _, _, _ => ⟨[], .nil, List.nil_sublist _⟩
  | _ + 1, _, _, _, .nil => ⟨[], .nil, List.nil_sublist _⟩
  | m + 1, _, _, _, .cons r t => by
    obtain ⟨g2, h, s⟩ := t.take m
    exact ⟨_ :: g2, .cons r h, by rw [List.flatten_cons, List.flatten_cons]; exact List.Sublist.append (List.Sublist.refl _) s⟩
theorem Own3.drop {α : Type} {D : α → Od} {H : Hp} : ∀ (m : Nat) {xs : List α} {vs : List V} {gs : List (List Addr)}, Own3 D H xs vs gs → ∃ g2, Own3 D H (xs.drop m) (vs.drop m) g2 ∧ g2.flatten.Sublist gs.flatten
  | 0, _, _, gs, h => ⟨gs, h, List.Sublist.refl _⟩
  | _ + 1, _, _, _, .nil => ⟨[], .nil, List.nil_sublist _⟩
  | m + 1, _, _, _, .cons r t => by
    obtain ⟨g2, h, s⟩ := t.drop m
    exact ⟨g2, h, by rw [List.flatten_cons]; exact s.trans (List.sublist_append_right _ _)⟩
def pHT (ps : List Pd) : Pd where
  pr H v := ∃ a vs, v = .ref a ∧ H a = some (.tup vs) ∧ Paired (fun p u => Pd.pr p H u) ps vs
  mono := fun f ⟨a, vs, e, h, p⟩ => ⟨a, vs, e, f _ _ trivial h, paired_mono (fun x _ => x.mono f) p⟩
@[reducible] def pT4 {α β δ ε : Type} (A : α → Pd) (B : β → Pd) (C : δ → Pd) (D : ε → Pd) (x : α × β × δ × ε) : Pd := pHT [A x.1, B x.2.1, C x.2.2.1, D x.2.2.2]
@[reducible] def pT5 {α β δ ε ζ : Type} (A : α → Pd) (B : β → Pd) (C : δ → Pd) (D : ε → Pd) (E : ζ → Pd) (x : α × β × δ × ε × ζ) : Pd := pHT [A x.1, B x.2.1, C x.2.2.1, D x.2.2.2.1, E x.2.2.2.2]
theorem x_dispHT {es : List Expr} {x1} {pos : Pos} {β : Type} {T : Option γ} {k : β → Option γ} {Es : β → List Pd} {Δ1 : β → Δs} (ha : PA X es (tAr W F Γ Δ T k Es Δ1)) (hz : ∀ b, (Es b).length ≤ 1000 := by exact fun _ => by decide) :
    PE X (.Tuple es x1 pos) (tE W F Γ Δ T k (fun b => pHT (Es b)) Δ1) :=
  (pe_tup ha).wk fun σ H Q ⟨ok, g, e, w⟩ => ⟨ok, g, e, fun b vs H' kb f ok' hp => by
    have z : (Es b).length ≤ sizeLine := Nat.le_trans (hz b) (by decide)
    refine ⟨by rw [← paired_len hp]; exact z, fun t nt => ?_⟩
    have g' : Gr H' (upd H' t (.tup vs)) := Gr.new nt
    exact w b _ _ kb (f.trans g'.st) (ok'.gr g') ⟨t, vs, rfl, upd_same, paired_mono (fun x _ => x.mono g'.fzs) hp⟩⟩
section
variable {a : Expr} {n} {p pos : Pos} {β α1 α2 α3 α4 α5 : Type} {T : Option γ} {k : β → Option γ} {Δ1 : β → Δs} {A : α1 → Pd} {B : α2 → Pd} {C : α3 → Pd} {D : α4 → Pd} {E : α5 → Pd}
end
end
section
variable {P : Pd → V → Prop} {gV : List V → List V → List V} {As : List Pd} {vs zs : List V}
end
section
variable {X : Cx} {CX : CXT} {k n : Nat} {f C : Addr} {fd : FuncData} {ps ks : List Str} {sp : Sp} {x : Str} {p pos : Pos} {e : Expr} {es : List Expr} {kws : List Keyword} {t tk : TA} {g : List Value → List Value → List Value} {gV : List V → List V → List V}
theorem _root_.L2.PK.wk {t t' : TA} (h : PK X kws t) (w : ∀ σ H Q, t' σ H Q → t σ H Q) : PK X kws t' := ⟨fun pos pins s σ H Q I q => h.run pos pins s σ H Q I (w σ H Q q)⟩
end
section
variable {X : Cx} {W : Bool} {F : Fm} {Γ : Gm} {Δ : Δs} {γ ε : Type}
variable {fI : Addr} {kk n : Nat} {fd : FuncData} {ps ks : List Str} {α ρ β1 β2 : Type} {cn : Str} {A : α → List Pd} {Mf : α → Option (Except ε ρ)} {ns : List Str} {R : ρ → List Pd} {C : Addr} {p pos : Pos} {e : Expr} {es : List Expr} {kws : List Keyword} {T : Option γ} {kc : (β1 × β2) × ρ → Option γ} {D : (β1 × β2) × ρ → Od} {Kx : Xk ε} {g : List Value → List Value → List Value} {gV : List V → List V → List V}
end
end L3
end
section
set_option maxHeartbeats 4000000
set_option autoImplicit true
namespace L3
open PySem PySem.Spec PyProof.Rows L2 PySem.SxX L2H
structure FnQ (P : Program) (w : World) (K : PySem.W.Frag) (mg : Str → Option Value) (base : Heap) (CX : CXT) (k : Nat) (f : Addr) (fd : FuncData) (ps : List Str) (sp : Sp) : Prop where
  sz : ∀ vs H Q E, sp vs H Q E → vs.length = ps.length
  go : ∀ (A : Around) (outer : List Env) (s : Shared) (H : Hp) (args : Args) (us : List Value) (vs : List V) (Q : VK) (E : XK) (p : Addr × Obj), RoomH k A → PinOk outer H s p → Env0 P w K mg base A outer s H → BindsTo s fd args (ps.zip us) → Vals vs us → sp vs H Q E → codeAny (model P w) A (.call (.ref f) args) (CR CX outer P w H s Q E) s
section
variable {P : Program} {w : World} {K : PySem.W.Frag} {mg : Str → Option Value} {base : Heap} {CX : CXT} {k : Nat} {f : Addr} {fd : FuncData} {N ps : List Str} {sp : Sp} {x qual : Str} {params : Arguments} {body : List Stmt} {scope : Scope} {dvs : List V} {kws : List (Str × V)}
theorem fn_ofQ (FD : FunD K x qual params body scope dvs kws f fd) (S : FnScope N ps scope) (sz : ∀ vs H Q E, sp vs H Q E → vs.length = ps.length)
    (hB : ∀ (cdv : Value) (A : Around) (outer : List Env) (s : Shared) (H : Hp) (vs : List V) (Q : VK) (E : XK) (p : Addr × Obj), RoomH k (A.deeper (envOfC qual scope s.heap.objs.size f cdv)) → sp vs H Q E → ∃ t, PSs (cxH CX P w K mg base N qual scope f cdv A outer s H E p) body t ∧ t { nx := fun _ H' => Q .non H', rt := Q } (L2.start N vs) H) : FnQ P w K mg base CX (k + 1) f fd ps sp := by
  obtain ⟨oc, od, dV, kV, doc, pm, an, cdv, ct, osl, rfl, lk, hcd, _, _⟩ := FD.ex
  refine ⟨sz, fun A outer s H args us vs Q E p hr hp e0 hb r hsp => ?_⟩
  have KX : K.In s.heap := e0.mod.kin.keeps fun b o e => (e0.bs b o e).1
  have hl : vs.length = ps.length := sz _ _ _ _ hsp
  have kd : ∀ y ∈ ps.zip us, scope.names.lookup y.1 = some .local ∨ (scope.names.lookup y.1 = some .cell ∧ ((cellsFrom (s.heap.objs.size + 1) scope.names []).lookup y.1).isSome = true) := fun y hy => by
    rcases S.par y.1 (List.of_mem_zip (a := y.1) (b := y.2) hy).1 with q | q
    · exact .inl q
    · exact .inr ⟨q, PySem.W.cellsFrom_some _ _ _ (.inl q)⟩
  refine codeAny_call_function hr.depth (KX _ _ lk) rfl S.co S.gen rfl (PySem.W.codeRec_of KX hcd) (hb _ _ _ _ (wpAny_newFunctionEnv_cells S.kind kd fun env he s1 x => ?_))
  subst he
  obtain ⟨t, ht, hq⟩ := hB cdv A outer s H vs Q E p (hr.deeper _) hsp
  have lim : s.heap.NoLimit := e0.mod.nolimit.keeps fun b o e => (e0.bs b o e).1
  refine ⟨lim.keeps x.toInCall.keep, codeAny_func (wpAny_mono (ht.run [] s1 (L2.start N vs) H _ (inv_startH S hp e0 hl r x) hq) (fun fl s' hs => ?_) fun e s' hs => hs)⟩
  cases fl with
  | next => obtain ⟨_, H', I', q⟩ := hs; exact ⟨V.non, H', I'.os, I'.bare, I'.base, I'.hok, rfl, q⟩
  | ret v => obtain ⟨x', σ', H', I', rv, q⟩ := hs; exact ⟨x', H', I'.os, I'.bare, I'.base, I'.hok, rv, q⟩
  | brk => obtain ⟨_, _, _, q⟩ := hs; exact False.elim q
  | cont => obtain ⟨_, _, _, q⟩ := hs; exact False.elim q
def SpQ1 {α ρ : Type} (E1 : α → Pd) (Mf : α → Option ρ) (Rp : ρ → Pd) : Sp := fun vs H Q _ => ∃ (v1 : V) (a1 : α), vs = [v1] ∧ (E1 a1).pr H v1 ∧ ∃ r, Mf a1 = some r ∧ RF ⟨H, []⟩ (fun _ => []) Rp r Q
theorem fn_Q1 {α ρ : Type} {E1 : α → Pd} {Mf : α → Option ρ} {Rp : ρ → Pd} (FD : FunD K x qual params body scope dvs kws f fd) (S : FnScope N ps scope) (hl : 1 = ps.length)
    (hB : ∀ (cdv : Value) (A : Around) (outer : List Env) (s : Shared) (H : Hp) (E : XK) (p : Addr × Obj) (hr : RoomH k (A.deeper (envOfC qual scope s.heap.objs.size f cdv))) (a1 : α), PSs (cxH L2.CX0 P w K mg base N qual scope f cdv A outer s H E p) body
      (tS ⟨H, []⟩ (([E1 a1] : List Pd).map some ++ List.replicate (N.length - 1) none) [] (fF (RF ⟨H, []⟩ (fun _ => []) Rp)) (Mf a1))) : FnQ P w K mg base L2.CX0 (k + 1) f fd ps (SpQ1 E1 Mf Rp) := by
  refine fn_ofQ FD S (fun vs H Q E h => ?_) fun cdv A outer s H vs Q E p hr h => ?_
  · obtain ⟨v1, a1, rfl, _⟩ := h
    exact hl
  · obtain ⟨v1, a1, rfl, p1, r, hM, fin⟩ := h
    refine ⟨_, hB cdv A outer s H E p hr a1, ok_start (Δ := []) rfl (.cons p1 (.nil)) ?_ ?_ ?_, r, hM, fin⟩
    · exact fun _ h => nomatch h
    · exact List.nodup_nil
    · exact fun _ _ h => nomatch h
end
section
variable {X : Cx} {CX : CXT} {k : Nat} {f : Addr} {fd : FuncData} {ps : List Str} {sp : Sp}
theorem run_fnQ {E : XK} {pins : List (Addr × Obj)} {σ : SS} {H : Hp} {s : Shared} {Q : VK} {us : List Value} {vs : List V} (G : FnQ X.prog X.w X.K X.mg X.base CX k f fd ps sp) (hr : RoomH k X.A) {p : Addr × Obj} (hp : p ∈ X.pn) (hb : Binds X.K fd ps []) (hx : PassesAt CX X σ E) (I : Inv X pins σ H s) (r : Vals vs us) (h : sp vs H Q E) : wpAny (model X.prog X.w) X.A (call (.ref f) us) (EP X pins σ Q) X.xe s := by
  have hl : (us ++ []).length = ps.length := by rw [List.append_nil, ← r.length]; exact G.sz _ _ _ _ h
  have bn := hb s us I.kIn hl; rw [List.append_nil] at bn
  have J := I.pin p (List.mem_append_left _ hp)
  have pok : PinOk X.stack H s p := ⟨J.1, J.2.1, fun hm => (List.mem_cons.mp (I.stkSub p.1 hm)).elim J.2.2.1 J.2.2.2.1, J.2.2.2.2⟩
  refine wpAny_call (codeAny_mono (G.go X.A X.stack s H ⟨us, []⟩ us vs Q E p hr pok I.env0 bn r h) fun o s' ho => ?_)
  match o, ho with
  | .error w, ho => exact hx pins _ _ w s' I ho
  | .ok (.ret u), ho => exact I.after ho
  | .ok .next, ho => exact False.elim ho
  | .ok .brk, ho => exact False.elim ho
  | .ok .cont, ho => exact False.elim ho
end
section
variable {X : Cx} {W : Bool} {F : Fm} {Γ : Gm} {Δ : Δs} {γ : Type}
theorem x_Q1 {x : Str} {q pos : Pos} {e1 : Expr} {f : Addr} {fd : FuncData} {ps : List Str} {kk : Nat} {α ρ β1 : Type} {E1 : α → Pd} {Mf : α → Option ρ} {Rp : ρ → Pd} {T : Option γ} {Δ1 : β1 → Δs} {x1 : β1 → α} {k : β1 × ρ → Option γ} {p : Addr × Obj} (hp : p ∈ X.pn)
    (G : FnQ X.prog X.w X.K X.mg X.base L2.CX0 kk f fd ps (SpQ1 E1 Mf Rp)) (hr : RoomH kk X.A) (hm : X.mg x = some (.ref f)) (hk : PySem.W.keepIn X.K (.ref f) = true) (hb : Binds X.K fd ps []) (h1 : PE X e1 (tE W F Γ Δ T (fun b1 => (Mf (x1 b1)).bind fun r => k (b1, r)) (fun b1 => E1 (x1 b1)) Δ1))
    (hg : Gl X x := by rfl) (hdb : (x == ("__debug__" : Str)) = false := by decide) (st1 : starEach [e1] X.env = (false, eval e1 X.env) :: starEach [] X.env := by rfl) (hpl : (backTo pos (starEach [] X.env)).any (·.1) = false := by rfl) :
    PE X (.Call (.Name x q) [e1] [] pos) (tE W F Γ Δ T k (fun b => Rp b.2) fun b => Δ1 b.1) :=
  (show PE X (.Call (.Name x q) [e1] [] pos) (tCallS (SpQ1 E1 Mf Rp) (fun _ => fun _ _ _ => False) (tCons (tE W F Γ Δ T (fun b1 => (Mf (x1 b1)).bind fun r => k (b1, r)) (fun b1 => E1 (x1 b1)) Δ1) tNil)) from
    ⟨fun pins s σ H Q I h => wpAny_Call_Name_kw (ld_glob I hg hm (PySem.W.callWith_K (h₀ := X.base) I.ok.mod.kin hk (thn ((pa_cons h1 pa_nil st1).run pos pins s σ H _ I h) fun us s1 ⟨vs, H1, I1, r, q⟩ => ⟨I1.kIn, run_fnQ G hr hp hb (fun _ _ _ _ _ _ z => False.elim z) I1 r q⟩) st1 hpl) hdb)⟩).wk fun σ H Q ⟨ok, g, e, q⟩ => ⟨ok, g, e, fun b1 v1 H1 kb1 f1 ok1 hv1 => by
    obtain ⟨r, er, kr⟩ := bind_some kb1
    refine ⟨v1, x1 b1, rfl, hv1, r, er, fun v H' hk hv => ?_⟩
    obtain ⟨ok', st⟩ := call_f0 (W := W) ok1 hk
    exact q (b1, r) v H' kr (f1.trans st) ok' hv⟩
end
theorem roomS {X : Cx} {j k : Nat} {a : Addr} {pn : List (Addr × Obj)} (r : Room k X.A) (h : j ≤ k) : RoomH j (X.suite a pn).A := ⟨(roomH_of (r.mono h)).dp, (roomH_of (r.mono h)).un⟩
end L3
end
section
set_option maxHeartbeats 4000000
set_option autoImplicit true
namespace L3
open PySem PySem.Spec PyProof.Rows L2
section
variable {X : Cx} {W : Bool} {F : Fm} {Γ : Gm} {Δ : Δs} {γ : Type}
theorem Foc.inl {α β : Type} {d : Od} {v : V} {A : α → Od} {B : β → Od} {x : α ⊕ β} {back : α ⊕ β → Od} {u : V} {H : Hp} {y : α} (f : Foc d v (oSm A B) x back u H) (e : x = .inl y) : Foc d v A y (fun y => back (.inl y)) u H := fun H1 G g1 hd nd => by
  subst e
  obtain ⟨G2, h, sb, nd2, tr⟩ := f H1 G g1 hd nd
  exact ⟨G2, h, sb, nd2, fun H' y G3 kp fz nd3 ds h3 => tr H' (.inl y) G3 kp fz nd3 ds h3⟩
theorem Foc.inr {α β : Type} {d : Od} {v : V} {A : α → Od} {B : β → Od} {x : α ⊕ β} {back : α ⊕ β → Od} {u : V} {H : Hp} {y : β} (f : Foc d v (oSm A B) x back u H) (e : x = .inr y) : Foc d v B y (fun y => back (.inr y)) u H := fun H1 G g1 hd nd => by
  subst e
  obtain ⟨G2, h, sb, nd2, tr⟩ := f H1 G g1 hd nd
  exact ⟨G2, h, sb, nd2, fun H' y G3 kp fz nd3 ds h3 => tr H' (.inr y) G3 kp fz nd3 ds h3⟩
end
end L3
end
section
set_option maxHeartbeats 4000000
set_option autoImplicit true
namespace L3
open PySem PySem.Spec PyProof.Rows L2
section
variable {X : Cx} {W : Bool} {F : Fm} {Γ : Gm} {Δ : Δs} {γ : Type}
variable {N : Fn γ} {rest : List Stmt}
end
section
variable {X : Cx} {W : Bool} {F : Fm} {Γ : Gm} {Δ : Δs} {γ : Type}
end
end L3
end
section
set_option maxHeartbeats 4000000
set_option autoImplicit true
namespace L3
open PySem PySem.Spec PyProof.Rows L2
section
variable {X : Cx} {W : Bool} {F : Fm} {Γ : Gm} {Δ : Δs} {γ : Type}
section
variable {a b : Expr} {pos : Pos} {β1 β2 : Type} {T : Option γ} {k1 : β1 → Option γ} {k : β1 × β2 → Option γ} {Δ1 : β1 → Δs} {Δ2 : β1 → β2 → Δs} {xs : β1 → List Int} {ys : β1 → β2 → List Int}
end
end
end L3
end
section
set_option maxHeartbeats 4000000
namespace L3
open PySem PySem.Spec PyProof.Rows L2
section
variable {prog : Program} {w : World} {A : Around} {R : Result → Shared → Prop} {s : Shared} {kx vx t0 i0 t1 i1 : Expr} {ifs0 ifs1 : List Expr} {scope : Scope} {pos : Pos} {it acc : Value} {env : Env}
end
end L3
end
section
set_option maxHeartbeats 4000000
namespace L3
open PySem PySem.Spec PyProof.Rows L2
section
variable {X : Cx}
end
end L3
end
section
set_option maxHeartbeats 4000000
namespace L3
open PySem PySem.Spec PyProof.Rows L2
section
variable {κ δ : Type} [DecidableEq κ] [Ky κ]
variable {X : Cx} {F : Fm} {Γ : Gm} {Δ : Δs} {γ : Type}
variable {α α2 β β4 β5 β6 : Type} {g g2 : TG} {own : List (Str × Nat)} {vs1 : List Nat} {T : Option γ} {k : β × List (κ × δ) → Option γ} {Ex : α → Pd} {Ex2 : α2 → Pd} {D : δ → Od} {bd : Gm → α → Gm} {bd2 : Gm → α2 → Gm} {xs : β → List α} {C : β → Δs} {f : β → α → Option (List (κ × δ))}
    {ys : β → α → β4 → List α2} {h : β → α → β4 → α2 → Option (κ × δ)} {T2 : β → α → β4 → α2 → β5 → Option (κ × δ)} {ky : β → α → β4 → α2 → β5 → κ} {vy : β → α → β4 → α2 → β5 → β6 → δ}
end
end L3
namespace L3
open PySem PySem.Spec PyProof.Rows L2
section
variable {X : Cx} {W : Bool} {F : Fm} {Γ : Gm} {Δ : Δs} {γ : Type}
end
end L3
end
section
set_option maxHeartbeats 4000000
set_option autoImplicit true
namespace L3
open PySem PySem.Spec PyProof.Rows L2
section
variable {X : Cx} {W : Bool} {F : Fm} {Γ : Gm} {Δ : Δs} {γ : Type}
end
end L3
end
section
set_option maxHeartbeats 4000000
set_option autoImplicit true
namespace L3
open PySem PySem.Spec PyProof.Rows L2
section
variable {X : Cx} {W : Bool} {F : Fm} {Γ : Gm} {Δ : Δs} {γ : Type}
variable {N : Fn γ}
end
end L3
end
section
set_option maxHeartbeats 4000000
set_option autoImplicit true
namespace L3
open PySem PySem.Spec PyProof.Rows L2
section
variable {α β α' β' δ : Type} {E : α → Pd} {G : β → Pd} {E' : α' → Pd} {G' : β' → Pd} {D : δ → Pd}
end
section
variable {X : Cx} {W : Bool} {F : Fm} {Γ : Gm} {Δ : Δs} {γ : Type}
theorem Foc.op {α : Type} {d : Od} {v : V} {A : α → Od} {x : Option α} {back : Option α → Od} {u : V} {H : Hp} {y : α} (f : Foc d v (oOp A) x back u H) (e : x = some y) : Foc d v A y (fun y => back (some y)) u H := fun H1 G g1 hd nd => by
  subst e
  obtain ⟨G2, h, sb, nd2, tr⟩ := f H1 G g1 hd nd
  exact ⟨G2, h, sb, nd2, fun H' y G3 kp fz nd3 ds h3 => tr H' (some y) G3 kp fz nd3 ds h3⟩
section
variable {α β : Type} {E : α → Pd} {G : β → Pd} {A : α → Od} {B : β → Od}
end
section
variable {a b : Expr} {pos p : Pos} {β1 β2 : Type} {T : Option γ} {k1 : β1 → Option γ} {k : β1 × β2 → Option γ} {c : β1 → Bool} {d : β1 → β2 → Bool} {Δ1 : β1 → Δs} {Δ2 : β1 → β2 → Δs}
end
theorem x_sortedS {a : Expr} {pos p : Pos} {β : Type} {T : Option γ} {Δ1 : β → Δs} {E1 : β → Pd} {xs : β → List Str} {k : β → Option γ} (hm : X.mg "sorted" = none) (ha : PE X a (tE W F Γ Δ T (fun b => grd ((xs b).length < 64) (k b)) E1 Δ1)) (rd : ∀ b, RdL (Δ1 b) (E1 b) pStr (xs b)) (hg : Gl X "sorted" := by rfl) (hs : starEach [a] X.env = (false, eval a X.env) :: starEach [] X.env := by rfl) :
    PE X (.Call (.Name "sorted" p) [a] [] pos) (tO W F Γ Δ T k (fun b => oL pStr (srtS (xs b))) Δ1) :=
  ((u_callB cr_sortedS hg hm (by decide +kernel) (by decide) (by decide) hs) _ ha).wk fun σ H Q ⟨ok, g, e, q⟩ => ⟨ok, g, e, fun b v H1 kb f ok1 hv => by
    obtain ⟨c, kb⟩ := grd_some kb
    obtain ⟨p, vs, ev, sq, z, pr⟩ := (rd b F H1 v ok1.hk hv).sq (K := X.K)
    have e := paired_strs pr
    subst e
    rw [ev]
    refine ⟨p, xs b, rfl, sq, c, fun ys l pm so hl => ?_⟩
    have e := srtS_uniq pm so
    subst e
    obtain ⟨o2, f2⟩ := ok1.newL hl (E := pStr) (xs := srtS (xs b)) (by rw [(srtS_perm _).length_eq]; exact z) (strs_paired _)
    exact q b _ _ kb (f.trans f2.st) (o2.since f)⟩
end
end L3
end
section
set_option maxHeartbeats 4000000
set_option autoImplicit true
namespace L3
open PySem PySem.Spec PyProof.Rows L2
section
variable {α β δ α' : Type} {A : α → Od} {B : β → Od} {D : δ → Od} {E : α → Pd} {E' : α' → Pd}
end
section
variable {X : Cx} {W : Bool} {F : Fm} {Γ : Gm} {Δ : Δs} {γ : Type}
end
end L3
end
section
set_option maxHeartbeats 4000000
set_option autoImplicit true
namespace L3
open PySem PySem.Spec PyProof.Rows L2
section
variable {X : Cx} {W : Bool} {F : Fm} {Γ : Gm} {Δ : Δs} {γ : Type}
section
variable {α β β2 β3 δ S : Type} {g : TG} {own : List (Str × Nat)} {T : Option γ} {k0 : β → Option γ} {k : β × (List δ × S) → Option γ} {out : β × (List δ × S) → List δ} {Ex : α → Pd} {Ee : δ → Pd} {bd : Gm → α → Gm} {xs : β → List α} {Δ1 : β → Δs} {C : β → S → Δs} {s0 : β → S} {f : β → α → S → Option (Option δ × S)}
    {c : β → α → S → β2 → Bool} {s2 : β → α → S → β2 → S} {T2 : β → α → S → β2 → Option (Option δ × S)} {y : β → α → S → β2 → β3 → δ} {s3 : β → α → S → β2 → β3 → S}
end
end
end L3
end
section
set_option maxHeartbeats 4000000
set_option autoImplicit true
namespace L3
open PySem PySem.Spec PyProof.Rows L2
section
variable {X : Cx} {W : Bool} {F : Fm} {Γ : Gm} {Δ : Δs} {γ : Type}
section
variable {a b : Expr} {pos : Pos} {β1 β2 : Type} {T : Option γ} {k1 : β1 → Option γ} {k : β1 × β2 → Option γ} {Δ1 : β1 → Δs} {Δ2 : β1 → β2 → Δs} {i : β1 → Int} {v0 : V} {xs : β1 → β2 → List Int} {prm : Option Nat}
end
variable {α ρ β1 β2 : Type} {fI : Addr} {kk n : Nat} {fd : FuncData} {ps ks : List Str} {cn : Str} {A : α → List Pd} {Mf : α → Option ρ} {ns : List Str} {R : ρ → List Pd} {C : Addr} {p pos : Pos} {e : Expr} {es : List Expr} {kws : List Keyword} {T : Option γ} {kc : (β1 × β2) × ρ → Option γ} {D : (β1 × β2) × ρ → Od} {g : List Value → List Value → List Value} {gV : List V → List V → List V}
end
end L3
end
section
set_option maxHeartbeats 4000000
set_option autoImplicit true
namespace L3
open PySem PySem.Spec PyProof.Rows L2
section
variable {X : Cx} {W : Bool} {F : Fm} {Γ : Gm} {Δ : Δs} {γ : Type}
end
end L3
end
section
set_option maxHeartbeats 4000000
set_option autoImplicit true
namespace L3
open PySem PySem.Spec PyProof.Rows L2
section
variable {X : Cx} {W : Bool} {F : Fm} {Γ : Gm} {Δ : Δs} {γ : Type}
end
end L3
end
section
set_option maxHeartbeats 1000000
namespace L3
open PySem PySem.Spec PyProof.Rows L2 RZ
open PySem.Sem (wp)
section
variable {w : World} {prog : Program} {s : Shared} {A : Around} {E : Value → Shared → Prop}
end
section
variable {w : World} {prog : Program} {s : Shared} {A : Around} {E : Value → Shared → Prop}
end
section
variable {X : Cx} {W : Bool} {F : Fm} {Γ : Gm} {Δ : Δs} {γ : Type}
end
end L3
end
section
set_option maxHeartbeats 4000000
set_option autoImplicit true
namespace L3
open PySem PySem.Spec PyProof.Rows L2
def Ix {α δ : Type} (i : Nat) (P : α → Pd) (E : δ → Pd) (g : α → Option δ) : Prop := ∀ x y, g x = some y → ∃ ps : List Pd, (∀ H v, (P x).pr H v → (pHT ps).pr H v) ∧ ps[i]? = some (E y)
theorem ix_no {α δ : Type} {i : Nat} {P : α → Pd} {E : δ → Pd} : Ix i P E (fun _ => none) := fun _ _ h => nomatch h
theorem ix_sm {α β δ : Type} {i : Nat} {P : α → Pd} {Q : β → Pd} {E : δ → Pd} {f : α → Option δ} {g : β → Option δ} (h1 : Ix i P E f) (h2 : Ix i Q E g) : Ix i (pSm P Q) E (Sum.elim f g) := fun x y h => by
  cases x with
  | inl x => exact h1 x y h
  | inr x => exact h2 x y h
theorem ht3 {α β γ : Type} {A : α → Pd} {B : β → Pd} {C : γ → Pd} {x : α × β × γ} {H : Hp} {v : V} (h : (pT3 A B C x).pr H v) : (pHT [A x.1, B x.2.1, C x.2.2]).pr H v := by
  obtain ⟨a, u, w, z, e, h, p, q, r⟩ := h
  exact ⟨a, [u, w, z], e, h, .cons p (.cons q (.cons r .nil))⟩
section
variable {α1 α2 α3 α4 α5 : Type} {A : α1 → Pd} {B : α2 → Pd} {C : α3 → Pd} {D : α4 → Pd} {E : α5 → Pd}
theorem ix_t30 : Ix 0 (pT3 A B C) A (fun x => some x.1) := fun x y h => ⟨_, fun _ _ => ht3, by cases h; rfl⟩
theorem ix_t31 : Ix 1 (pT3 A B C) B (fun x => some x.2.1) := fun x y h => ⟨_, fun _ _ => ht3, by cases h; rfl⟩
theorem ix_t32 : Ix 2 (pT3 A B C) C (fun x => some x.2.2) := fun x y h => ⟨_, fun _ _ => ht3, by cases h; rfl⟩
theorem ix_t40 : Ix 0 (pT4 A B C D) A (fun x => some x.1) := fun x y h => ⟨_, fun _ _ h => h, by cases h; rfl⟩
theorem ix_t41 : Ix 1 (pT4 A B C D) B (fun x => some x.2.1) := fun x y h => ⟨_, fun _ _ h => h, by cases h; rfl⟩
theorem ix_t42 : Ix 2 (pT4 A B C D) C (fun x => some x.2.2.1) := fun x y h => ⟨_, fun _ _ h => h, by cases h; rfl⟩
theorem ix_t43 : Ix 3 (pT4 A B C D) D (fun x => some x.2.2.2) := fun x y h => ⟨_, fun _ _ h => h, by cases h; rfl⟩
theorem ix_t50 : Ix 0 (pT5 A B C D E) A (fun x => some x.1) := fun x y h => ⟨_, fun _ _ h => h, by cases h; rfl⟩
theorem ix_t51 : Ix 1 (pT5 A B C D E) B (fun x => some x.2.1) := fun x y h => ⟨_, fun _ _ h => h, by cases h; rfl⟩
theorem ix_t52 : Ix 2 (pT5 A B C D E) C (fun x => some x.2.2.1) := fun x y h => ⟨_, fun _ _ h => h, by cases h; rfl⟩
theorem ix_t53 : Ix 3 (pT5 A B C D E) D (fun x => some x.2.2.2.1) := fun x y h => ⟨_, fun _ _ h => h, by cases h; rfl⟩
theorem ix_t54 : Ix 4 (pT5 A B C D E) E (fun x => some x.2.2.2.2) := fun x y h => ⟨_, fun _ _ h => h, by cases h; rfl⟩
end
section
variable {X : Cx} {W : Bool} {F : Fm} {Γ : Gm} {Δ : Δs} {γ : Type}
theorem x_ixP {a : Expr} {n} {p pos : Pos} {α β δ : Type} {T : Option γ} {k : β × δ → Option γ} {Δ1 : β → Δs} {P : α → Pd} {E : δ → Pd} {x : β → α} (m : Nat) {g : α → Option δ} (hx : Ix m P E g) (ha : PE X a (tE W F Γ Δ T (fun b => (g (x b)).bind fun y => k (b, y)) (fun b => P (x b)) Δ1)) : PE X (.Subscript a (.Constant (.int (m : Int)) n p) pos) (tE W F Γ Δ T k (fun b => E b.2) fun b => Δ1 b.1) :=
  (pe_ix ix_tup ha pe_int (fun _ _ => rfl)).wk fun σ H Q ⟨ok, g, e, q⟩ => ⟨ok, g, e, fun b v H1 kb f ok1 hv => by
    obtain ⟨y, ey, ky⟩ := bind_some kb
    obtain ⟨ps, hp, hm⟩ := hx _ _ ey
    obtain ⟨t, vs, ev, h, pr⟩ := hp _ _ hv
    obtain ⟨u, eu, pu⟩ := pHL_at pr hm
    refine ⟨t, vs, m, u, ev, rfl, .inl (.inl h), ?_, q (b, y) u H1 ky f ok1 pu⟩
    have hl : m < vs.length := by
      by_cases hl : m < vs.length
      · exact hl
      · rw [List.getElem?_eq_none (by omega)] at eu; cases eu
    unfold atI ixN
    rw [if_pos (Int.natCast_nonneg m), if_pos (by omega)]
    simpa using eu⟩
end
structure Dh {α : Type} (ps : α → List Pd) where
  n : Nat
  len : ∀ x, (ps x).length = n
  dep : Nat
  ok : α → α → Bool
  eqv : α → α → Bool
  e : α → α → Nat → Bool
  es : ∀ x y, (List.range n).all (e x y) = eqv x y
  rc : ∀ {X : Cx} {pins : List (Addr × Obj)} {σ : SS} {H : Hp} {s : Shared}, Inv X pins σ H s → ∀ A : Around, A.units + dep < cLine → ∀ x y, ok x y = true → ∀ j p q, (ps x)[j]? = some p → (ps y)[j]? = some q → ∀ v u v' u', p.pr H v → q.pr H u → RelV v v' → RelV u u' → SeqAt.EqP X.prog X.w A.in1 s v' u' (e x y j)
  same : ∀ (H : Hp) x y vs, ok x y = true → Paired (fun p u => Pd.pr p H u) (ps x) vs → Paired (fun p u => Pd.pr p H u) (ps y) vs → eqv x y = true
def dhN {α : Type} : Dh (fun _ : α => ([] : List Pd)) where
  n := 0
  len _ := rfl
  dep := 0
  ok _ _ := true
  eqv _ _ := true
  e _ _ _ := true
  es _ _ := rfl
  rc _ _ _ _ _ _ _ _ _ h := nomatch h
  same _ _ _ _ _ _ _ := rfl
def dhC {α β : Type} {E : β → Pd} {ps : α → List Pd} (d : De E) (f : α → β) (r : Dh ps) : Dh (fun x => E (f x) :: ps x) where
  n := r.n + 1
  len x := by rw [List.length_cons, r.len]
  dep := max d.dep r.dep
  ok x y := d.ok (f x) (f y) && r.ok x y
  eqv x y := d.eqv (f x) (f y) && r.eqv x y
  e x y j := match j with
    | 0 => d.eqv (f x) (f y)
    | j + 1 => r.e x y j
  es x y := by
    rw [List.range_succ_eq_map, List.all_cons, List.all_map, ← r.es x y]
    rfl
  rc {X pins σ H s} I A hu x y h j p q hp hq v u v' u' hv hw rv ru := by
    obtain ⟨h1, h2⟩ := Bool.and_eq_true_iff.mp h
    cases j with
    | zero => cases hp; cases hq; exact d.rc I A (by omega) _ _ h1 _ _ _ _ hv hw rv ru
    | succ j => exact r.rc I A (by omega) x y h2 j p q hp hq v u v' u' hv hw rv ru
  same H x y vs h hv hw := by
    obtain ⟨h1, h2⟩ := Bool.and_eq_true_iff.mp h
    match vs, hv, hw with
    | _ :: _, .cons p1 p2, .cons q1 q2 =>
      show (d.eqv _ _ && r.eqv _ _) = true
      rw [d.same H _ _ _ h1 p1 q1, r.same H x y _ h2 p2 q2]; rfl
def deHT {α : Type} {ps : α → List Pd} (d : Dh ps) : De (fun x => pHT (ps x)) where
  dep := d.dep + 1
  ok := d.ok
  eqv := d.eqv
  rc {X pins σ H s} I A hu x y h v u v' u' hv hw rv ru := by
    obtain ⟨a, vs, rfl, ra, pa⟩ := hv
    obtain ⟨b, ws, rfl, rb, pb⟩ := hw
    obtain rfl : v' = Value.ref a := rv
    obtain rfl : u' = Value.ref b := ru
    have la := paired_len pa
    have lb := paired_len pb
    rw [d.len] at la lb
    by_cases ab : a = b
    · subst ab
      rw [ra] at rb
      cases rb
      rw [d.same H _ _ _ h pa pb]
      exact (SeqAt.EqAt.same _).eqP
    · obtain ⟨us, r1, t1, _⟩ := I.tuple (xs := vs) (.inl (.inl ra))
      obtain ⟨us2, r2, t2, _⟩ := I.tuple (xs := ws) (.inl (.inl rb))
      have l1 := r1.length
      have l2 := r2.length
      refine SeqAt.eqP_refs ab fun E Q q => SeqAt.rcIn_tuples (e := d.e x y) t1 t2 (by show A.units + 1 < cLine; omega) (fun j j1 j2 => ?_) ?_
      · have j1 : j < us.length := j1
        have j2 : j < us2.length := j2
        obtain ⟨p, hp⟩ : ∃ p, (ps x)[j]? = some p := ⟨_, List.getElem?_eq_getElem (by rw [d.len]; omega)⟩
        obtain ⟨p2, hp2⟩ : ∃ p, (ps y)[j]? = some p := ⟨_, List.getElem?_eq_getElem (by rw [d.len]; omega)⟩
        obtain ⟨w1, e1, q1⟩ := pHL_at pa hp
        obtain ⟨w2, e2, q2⟩ := pHL_at pb hp2
        obtain ⟨z1, f1, g1⟩ := r1.get e1
        obtain ⟨z2, f2, g2⟩ := r2.get e2
        have k1 : us.toArray[j] = z1 := by
          have : us[j]? = some us[j] := List.getElem?_eq_getElem j1
          rw [f1] at this
          simpa using (Option.some.inj this).symm
        have k2 : us2.toArray[j] = z2 := by
          have : us2[j]? = some us2[j] := List.getElem?_eq_getElem j2
          rw [f2] at this
          simpa using (Option.some.inj this).symm
        show SeqAt.EqIn X.prog X.w A.in1.in1 s us.toArray[j] us2.toArray[j] (d.e x y j)
        rw [k1, k2]
        exact d.rc I A.in1 (by show A.units + 1 + d.dep < cLine; omega) x y h j p p2 hp hp2 _ _ _ _ q1 q2 g1 g2
      · have e0 : min us.toArray.size us2.toArray.size = d.n := by simp; omega
        have e1 : (us.toArray.size == us2.toArray.size) = true := by simp; omega
        rw [e0, e1, Bool.and_true, d.es]
        exact q
  same H x y v h hv hw := by
    obtain ⟨a, vs, rfl, ra, pa⟩ := hv
    obtain ⟨b, ws, eb, rb, pb⟩ := hw
    cases eb
    rw [ra] at rb
    cases rb
    exact d.same H _ _ _ h pa pb
def deCo {α : Type} {E E' : α → Pd} (d : De E) (h : ∀ x H v, (E' x).pr H v → (E x).pr H v) : De E' where
  dep := d.dep
  ok := d.ok
  eqv := d.eqv
  rc I A hu x y ho v u v' u' hv hw rv ru := d.rc I A hu x y ho v u v' u' (h _ _ _ hv) (h _ _ _ hw) rv ru
  same H x y v ho hv hw := d.same H x y v ho (h _ _ _ hv) (h _ _ _ hw)
section
variable {α1 α2 α3 α4 α5 : Type} {A : α1 → Pd} {B : α2 → Pd} {C : α3 → Pd} {D : α4 → Pd} {E : α5 → Pd}
def deT3 (a : De A) (b : De B) (c : De C) : De (pT3 A B C) := deCo (deHT (dhC a (fun x : α1 × α2 × α3 => x.1) (dhC b (fun x : α1 × α2 × α3 => x.2.1) (dhC c (fun x : α1 × α2 × α3 => x.2.2) dhN)))) fun _ _ _ => ht3
def deT4 (a : De A) (b : De B) (c : De C) (d : De D) : De (pT4 A B C D) := deHT (dhC a (fun x : α1 × α2 × α3 × α4 => x.1) (dhC b (fun x : α1 × α2 × α3 × α4 => x.2.1) (dhC c (fun x : α1 × α2 × α3 × α4 => x.2.2.1) (dhC d (fun x : α1 × α2 × α3 × α4 => x.2.2.2) dhN))))
def deT5 (a : De A) (b : De B) (c : De C) (d : De D) (e : De E) : De (pT5 A B C D E) := deHT (dhC a (fun x : α1 × α2 × α3 × α4 × α5 => x.1) (dhC b (fun x : α1 × α2 × α3 × α4 × α5 => x.2.1) (dhC c (fun x : α1 × α2 × α3 × α4 × α5 => x.2.2.1) (dhC d (fun x : α1 × α2 × α3 × α4 × α5 => x.2.2.2.1) (dhC e (fun x : α1 × α2 × α3 × α4 × α5 => x.2.2.2.2) dhN)))))
end
def ltS (x y : Str) : Bool := decide (x.cps.toList < y.cps.toList)
section
variable {X : Cx} {W : Bool} {F : Fm} {Γ : Gm} {Δ : Δs} {γ : Type} {a b : Expr} {pos : Pos} {β1 β2 : Type} {T : Option γ} {k1 : β1 → Option γ} {k : β1 × β2 → Option γ} {Δ1 : β1 → Δs} {Δ2 : β1 → β2 → Δs}
theorem t_ltS {i : β1 → Str} {j : β1 → β2 → Str} (ha : PE X a (tE W F Γ Δ T k1 (fun b => pStr (i b)) Δ1)) (hb : ∀ b1, PE X b (tE W F Γ (Δ1 b1) (k1 b1) (fun b2 => k (b1, b2)) (fun b => pStr (j b1 b)) (Δ2 b1))) :
    PT X (.Compare a [.Lt] [b] pos) (tTs W F Γ Δ T k (fun b => ltS (i b.1) (j b.1 b.2)) fun b => Δ2 b.1 b.2) :=
  t2t (bt_cmp op_lt_str (nomark _)) ha hb fun b1 b2 _ v w H Q _ hv hw q => ⟨i b1, j b1 b2, hv, hw, q _ rfl⟩
end
theorem ltCps_lt : ∀ a b : List Nat, ltCps a b = decide (a < b)
  | [], [] => by simp [ltCps]
  | [], _ :: _ => by simp [ltCps]
  | _ :: _, [] => by simp [ltCps]
  | x :: a, y :: b => by
    rw [ltCps, ltCps_lt a b, Bool.eq_iff_iff]
    simp [List.cons_lt_cons_iff]
theorem ltS_le (x y : Str) : ltS x y = !leS y x := by
  unfold ltS leS
  rw [ltCps_lt, Bool.not_not]
section
variable {X : Cx} {W : Bool} {F : Fm} {Γ : Gm} {Δ : Δs} {γ : Type} {a b : Expr} {pos : Pos} {α β1 β2 : Type} {Ee : α → Pd} {T : Option γ} {k1 : β1 → Option γ} {k : β1 × β2 → Option γ} {Δ1 : β1 → Δs} {Δ2 : β1 → β2 → Δs}
def repL {α : Type} (xs : List α) (n : Int) : List α := (List.replicate n.toNat xs).flatten
def repOkL (l : Nat) (n : Int) : Bool := decide (-(2 ^ 63) ≤ n) && decide (n < 2 ^ 63) && decide (l * n.toNat ≤ sizeLine)
theorem paired_flat {β : Type} {P : α → β → Prop} {xs : List α} {vs : List β} (h : Paired P xs vs) : ∀ n : Nat, Paired P (List.replicate n xs).flatten (List.replicate n vs).flatten
  | 0 => .nil
  | n + 1 => by
    rw [List.replicate_succ, List.replicate_succ, List.flatten_cons, List.flatten_cons]
    exact paired_app h (paired_flat h n)
theorem flat_len {β : Type} {vs : List β} : ∀ n : Nat, (List.replicate n vs).flatten.length = vs.length * n
  | 0 => rfl
  | n + 1 => by rw [List.replicate_succ, List.flatten_cons, List.length_append, flat_len n, Nat.mul_succ, Nat.add_comm]
theorem x_repO {xs : β1 → List α} {n : β1 → β2 → Int} (ha : PE X a (tO true F Γ Δ T k1 (fun b => oL Ee (xs b)) Δ1)) (hb : ∀ b1 v, PE X b (tE true F Γ (⟨v, oL Ee (xs b1), none⟩ :: Δ1 b1) (k1 b1) (fun b2 => grd (repOkL (xs b1).length (n b1 b2) = true) (k (b1, b2))) (fun b => pInt (n b1 b)) (fun b2 => ⟨v, oL Ee (xs b1), none⟩ :: Δ2 b1 b2))) :
    PE X (.BinOp a .Mult b pos) (tO true F Γ Δ T k (fun b => oL Ee (repL (xs b.1) (n b.1 b.2))) fun b => Δ2 b.1 b.2) :=
  (pe_op op_rep ha (pe_ex fun b1 => pe_ex fun v => hb b1 v)).wk fun σ H Q ⟨ok, g, e, q⟩ => ⟨ok, g, e, fun b1 v H1 kb1 f1 okn => ⟨b1, v, okn.ok, g, kb1, fun b2 w H2 kb2 f2 ok2 hw => by
    obtain ⟨c, kb⟩ := grd_some kb2
    unfold repOkL at c
    rw [Bool.and_eq_true, Bool.and_eq_true] at c
    obtain ⟨⟨c1, c2⟩, c3⟩ := c
    have c3 := of_decide_eq_true c3
    obtain ⟨_, p, vs, _, ev, hp, z, pr⟩ := ok2.hk.at (j := 0) rfl
    have l1 := paired_len pr
    refine ⟨p, n b1 b2, vs, ev, hw, hp, of_decide_eq_true c1, of_decide_eq_true c2, by rw [← l1]; exact c3, fun m nm => ?_⟩
    obtain ⟨o, g'⟩ := ok2.newL (W := true) nm (xs := repL (xs b1) (n b1 b2)) (by unfold repL; rw [flat_len]; exact c3) (paired_flat pr _)
    exact q (b1, b2) _ _ kb ((f1.trans f2).trans g'.st) ((o.since (f1.trans f2)).less (.cons _ (List.Sublist.refl _)))⟩⟩
end
section
variable {X : Cx} {W : Bool} {F : Fm} {Γ : Gm} {Δ : Δs} {γ : Type}
theorem t_chainII {a b c : Expr} {pos : Pos} {i j l : Int} (ha : ∀ {T : Option γ}, PE X a (tE W F Γ Δ T (fun _ : Unit => T) (fun _ => pInt i) fun _ => Δ)) (hb : ∀ {T : Option γ}, PE X b (tE W F Γ Δ T (fun _ : Unit => T) (fun _ => pInt j) fun _ => Δ)) (hc : ∀ {T : Option γ}, PE X c (tE W F Γ Δ T (fun _ : Unit => T) (fun _ => pInt l) fun _ => Δ)) {T : Option γ}
    (hm : lastMarks [CmpOp.LtE, .LtE] [b, c] = false := by with_unfolding_all rfl) : PT X (.Compare a [.LtE, .LtE] [b, c] pos) (tTs W F Γ Δ T (fun _ : Unit => T) (fun _ => decide (i ≤ j) && decide (j ≤ l)) fun _ => Δ) :=
  (pt_chain op_le op_le ha hb hc hm).wk fun σ H Q ⟨ok, g, e, q⟩ => ⟨ok, g, e, fun _ v H1 k1 f1 ok1 hv => ⟨ok1, g, k1, fun _ u H2 k2 f2 ok2 hu => ⟨i, j, hv, hu, decide (i ≤ j), rfl, by
    by_cases h : decide (i ≤ j) = true
    · rw [if_pos h]
      exact ⟨ok2, g, k2, fun _ w H3 k3 f3 ok3 hw => ⟨j, l, hu, hw, decide (j ≤ l), rfl, by
        have := q () H3 k3 ((f1.trans f2).trans f3) ok3
        rw [h, Bool.true_and] at this
        exact this⟩⟩
    · rw [if_neg h]
      refine ⟨false, rfl, ?_⟩
      have := q () H2 k2 (f1.trans f2) ok2
      rw [Bool.eq_false_iff.mpr h, Bool.false_and] at this
      exact this⟩⟩⟩
theorem i_zipLL {e1 e2 : Expr} {elts : List Expr} {kk : Nat} {p pos tpos : Pos} {α α2 β1 β2 : Type} {T : Option γ} {k1 : β1 → Option γ} {k : β1 × β2 → Option γ} {Ex : α → Pd} {Ey : α2 → Pd} {xs : β1 → List α} {ys : β1 → β2 → List α2} {Δ1 : β1 → Δs} {Δ2 : β1 → β2 → Δs} (hm : X.mg "zip" = none)
    (h1 : PE X e1 (tE W F Γ Δ T k1 (fun b => pL Ex (xs b)) Δ1)) (h2 : ∀ b1, PE X e2 (tE W F Γ (Δ1 b1) (k1 b1) (fun b2 => k (b1, b2)) (fun b2 => pL Ey (ys b1 b2)) (Δ2 b1))) (hg : Gl X "zip" := by rfl)
    (hs : starEach [e1, e2] X.env = (false, eval e1 X.env) :: starEach [e2] X.env := by rfl) (hs2 : starEach [e2] X.env = (false, eval e2 X.env) :: starEach [] X.env := by rfl) (hpl : (backTo pos (starEach [e2] X.env)).any (·.1) = false := by rfl) :
    PI X (.Tuple elts kk tpos) (.Call (.Name "zip" p) [e1, e2] [] pos) (tI W F Γ Δ T k (pT2 Ex Ey) (fun b => (xs b.1).zip (ys b.1 b.2)) fun b => Δ2 b.1 b.2) :=
  (pi_zip hg hm (pa_cons h1 (pa_cons (pe_ex h2) pa_nil hs2) hs) hs hpl).wk fun σ H R ⟨ok, g, e, q⟩ => ⟨ok, g, e, fun b1 v H1 kb1 f1 ok1 hv => ⟨b1, ok1, g, kb1, fun b2 w H2 kb2 f2 ok2 hw => by
    obtain ⟨a, oa, vs, ev, ha, z1, p1⟩ := (pL Ex (xs b1)).mono f2.fz hv
    obtain ⟨b, o, ws, ew, hb, z2, p2⟩ := hw
    subst ev ew
    have l1 := paired_len p1
    have l2 := paired_len p2
    refine ⟨a, b, vs, ws, rfl, .inl (.inr ⟨oa, ha⟩), .inl (.inr ⟨o, hb⟩), q (b1, b2) _ H2 kb2 (f1.trans f2) ok2 (by rw [List.length_zip]; exact Nat.le_trans (Nat.min_le_left _ _) z1) fun H3 f3 i => ?_⟩
    have ha3 : SqL X.K H3 a vs := .inl (.inr ⟨oa, f3 _ _ trivial ha⟩)
    have hb3 : SqL X.K H3 b ws := .inl (.inr ⟨o, f3 _ _ trivial hb⟩)
    refine ⟨fun hi => ?_, fun hi => ⟨vs, ws, ha3, hb3, ?_⟩, fun x v H4 hx hy => ?_⟩
    · have hi : i < ((xs b1).zip (ys b1 b2)).length := hi
      rw [List.length_zip] at hi
      obtain ⟨u, hu, _⟩ := paired_at p1 (List.getElem?_eq_getElem (i := i) (by omega))
      obtain ⟨u2, hu2, _⟩ := paired_at p2 (List.getElem?_eq_getElem (i := i) (by omega))
      exact ⟨vs, ws, u, u2, ha3, hb3, hu, hu2⟩
    · have hi : ((xs b1).zip (ys b1 b2)).length ≤ i := hi
      rw [List.length_zip] at hi
      omega
    · obtain ⟨T, u, u2, rfl, nT, rfl, hy1, hy2⟩ := hy
      have hx : ((xs b1).zip (ys b1 b2))[i]? = some x := hx
      rw [List.getElem?_zip_eq_some] at hx
      obtain ⟨x1, x2⟩ := hx
      obtain ⟨w1, hw1, pw1⟩ := paired_at p1 x1
      obtain ⟨w2, hw2, pw2⟩ := paired_at p2 x2
      have e1 := hy1 vs ha3
      have e2 := hy2 ws hb3
      rw [hw1] at e1
      rw [hw2] at e2
      cases e1
      cases e2
      have g' : Gr H3 (upd H3 T (.tup [u, u2])) := Gr.new nT
      exact ⟨g', ⟨T, _, _, rfl, upd_same, (Ex _).mono (f3.trans g'.fzs) pw1, (Ey _).mono (f3.trans g'.fzs) pw2⟩⟩⟩⟩
end
end L3
end
section
set_option maxHeartbeats 4000000
set_option synthInstance.maxSize 2000
noncomputable section
namespace My
open PySem PySem.Spec PyProof.Rows L2 L3
@[irreducible] def M_used_marks (a1 : List ((Str × List (Str × List Int) × Str) ⊕ ((Str × List (Str × List Int) × Str × (Str × (Str ⊕ (List (Int ⊕ (Str ⊕ (List Int))))))) ⊕ (Str × List (Str × List Int) × Str × Int × Int)))) (a2 : Int) : Option (Except Er (List Bool)) :=
  if (!((decide ((1 : Int) ≤ a2)) && (decide (a2 ≤ (a1.length : Int))))) = true then some ((Except.error) (⟨"UnknownLine", [.int a2]⟩ : Er)) else grd (repOkL ([false]).length (a1.length : Int) = true) ((some ((repL ([false]) (a1.length : Int)) : List Bool)).bind fun x3 => (ixN x3.length (a2 - (1 : Int))).bind fun (_ : Nat) => grd (rg2 (-(1 : Int)) (a2 - (1 : Int)) = true) ((forS (rngD (a2 - (1 : Int)) ((a2 - (1 : Int)) - (-(1 : Int))).toNat) ((x3.set ((ixN x3.length (a2 - (1 : Int))).getD 0) true) : (List Bool)) fun x10 s9 => (atI a1 x10).bind fun x13 => (some (x13 : ((Str × List (Str × List Int) × Str) ⊕ ((Str × List (Str × List Int) × Str × (Str × (Str ⊕ (List (Int ⊕ (Str ⊕ (List Int))))))) ⊕ (Str × List (Str × List Int) × Str × Int × Int))))).bind fun x14 => (atI s9 x10).bind fun x16 => ((if x16 = true then ((Sum.elim (fun (x_ : (Str × List (Str × List Int) × Str)) => some x_.1) (Sum.elim (fun (x_ : (Str × List (Str × List Int) × Str × (Str × (Str ⊕ (List (Int ⊕ (Str ⊕ (List Int)))))))) => some x_.1) (fun (x_ : (Str × List (Str × List Int) × Str × Int × Int)) => some x_.1))) x14).bind fun u18 => some ((decide (u18 = ("join" : Str))), ()) else some (false, ()))).bind fun c19 => (if c19.1 = true then ((Sum.elim (fun (_ : (Str × List (Str × List Int) × Str)) => (none : Option Int)) (Sum.elim (fun (_ : (Str × List (Str × List Int) × Str × (Str × (Str ⊕ (List (Int ⊕ (Str ⊕ (List Int)))))))) => (none : Option Int)) (fun (x_ : (Str × List (Str × List Int) × Str × Int × Int)) => some x_.2.2.2.1))) x14).bind fun u22 => (ixN s9.length (u22 - (1 : Int))).bind fun (_ : Nat) => ((Sum.elim (fun (_ : (Str × List (Str × List Int) × Str)) => (none : Option Int)) (Sum.elim (fun (_ : (Str × List (Str × List Int) × Str × (Str × (Str ⊕ (List (Int ⊕ (Str ⊕ (List Int)))))))) => (none : Option Int)) (fun (x_ : (Str × List (Str × List Int) × Str × Int × Int)) => some x_.2.2.2.2))) x14).bind fun u24 => (ixN (s9.set ((ixN s9.length (u22 - (1 : Int))).getD 0) true).length (u24 - (1 : Int))).bind fun (_ : Nat) => some ((s9.set ((ixN s9.length (u22 - (1 : Int))).getD 0) true).set ((ixN (s9.set ((ixN s9.length (u22 - (1 : Int))).getD 0) true).length (u24 - (1 : Int))).getD 0) true) else some s9).bind fun s21 => some s21).bind fun s11 => some (Except.ok (ε := Er) s11)))
@[irreducible] def M_rests_on (a1 : List ((Str × List (Str × List Int) × Str) ⊕ ((Str × List (Str × List Int) × Str × (Str × (Str ⊕ (List (Int ⊕ (Str ⊕ (List Int))))))) ⊕ (Str × List (Str × List Int) × Str × Int × Int)))) (a2 : Int) : Option (Except Er (List Str)) :=
  (M_used_marks a1 a2).bind (xK (Except.error) fun r26 => (some (r26 : List Bool)).bind fun x27 => (some ([] : List Str)).bind fun x30 => (forS (List.zip a1 x27) (x30 : (List Str)) fun x36 s35 => ((if x36.2 = true then ((Sum.elim (fun (x_ : (Str × List (Str × List Int) × Str)) => some x_.1) (Sum.elim (fun (x_ : (Str × List (Str × List Int) × Str × (Str × (Str ⊕ (List (Int ⊕ (Str ⊕ (List Int)))))))) => some x_.1) (fun (x_ : (Str × List (Str × List Int) × Str × Int × Int)) => some x_.1))) (x36.1)).bind fun u40 => ((if (decide (u40 = ("rule" : Str))) = true then ((Sum.elim (fun (x_ : (Str × List (Str × List Int) × Str)) => some x_.2.2) (Sum.elim (fun (x_ : (Str × List (Str × List Int) × Str × (Str × (Str ⊕ (List (Int ⊕ (Str ⊕ (List Int)))))))) => some x_.2.2.1) (fun (x_ : (Str × List (Str × List Int) × Str × Int × Int)) => some x_.2.2.1))) (x36.1)).bind fun u42 => some ((!decide (u42 ∈ s35)), ()) else some (false, ()))).bind fun c43 => some (c43.1, ()) else some (false, ()))).bind fun c44 => (if c44.1 = true then ((Sum.elim (fun (_ : (Str × List (Str × List Int) × Str)) => (none : Option Str)) (Sum.elim (fun (x_ : (Str × List (Str × List Int) × Str × (Str × (Str ⊕ (List (Int ⊕ (Str ⊕ (List Int)))))))) => some x_.2.2.1) (fun (_ : (Str × List (Str × List Int) × Str × Int × Int)) => (none : Option Str)))) (x36.1)).bind fun u47 => grd (s35.length < sizeLine) (some (s35 ++ [u47])) else some s35).bind fun s46 => some s46).bind fun s37 => grd (s37.length < 64) (some (Except.ok (ε := Er) (srtS s37))))
@[irreducible] def M_l_is_integer (a1 : Int) : Option (Bool) :=
  some (true && (!false))
@[irreducible] def M_l_stream (a1 : List Int) (a2 : Int) : Option (List Int) :=
  (some ((0 : Int) : Int)).bind fun x49 => (if (decide (a2 < (a1.length : Int))) = true then (atI a1 a2).bind fun x53 => (some (x53 : Int)).bind fun x54 => some x54 else some x49).bind fun s52 => grd ((sm s52 || sm (if (decide (((10 : Int) ^ (18 : Int).toNat) ≤ s52)) then 1 else 0 : Int)) = true) (some ([(s52 * (if (decide (((10 : Int) ^ (18 : Int).toNat) ≤ s52)) then 1 else 0 : Int)), (0 : Int), s52]))
@[irreducible] def M_l_next (a1 : List Int) (a2 : Int) : Option (Int × (List Int)) :=
  (atI a1 (1 : Int)).bind fun x56 => (ixN a1.length (1 : Int)).bind fun (_ : Nat) => (atI (a1.set ((ixN a1.length (1 : Int)).getD 0) (x56 + (1 : Int))) (0 : Int)).bind fun x58 => if (decide ((0 : Int) < x58)) = true then (atI (a1.set ((ixN a1.length (1 : Int)).getD 0) (x56 + (1 : Int))) (0 : Int)).bind fun x60 => grd (0 < a2) ((some ((x60 % a2) : Int)).bind fun x61 => (atI (a1.set ((ixN a1.length (1 : Int)).getD 0) (x56 + (1 : Int))) (0 : Int)).bind fun x63 => grd (dv a2 = true) ((ixN (a1.set ((ixN a1.length (1 : Int)).getD 0) (x56 + (1 : Int))).length (0 : Int)).bind fun (_ : Nat) => some (x61, ((a1.set ((ixN a1.length (1 : Int)).getD 0) (x56 + (1 : Int))).set ((ixN (a1.set ((ixN a1.length (1 : Int)).getD 0) (x56 + (1 : Int))).length (0 : Int)).getD 0) (x63 / a2))))) else (atI (a1.set ((ixN a1.length (1 : Int)).getD 0) (x56 + (1 : Int))) (2 : Int)).bind fun x65 => (atI (a1.set ((ixN a1.length (1 : Int)).getD 0) (x56 + (1 : Int))) (1 : Int)).bind fun x66 => grd ((sm (7919 : Int) || sm x66) = true) (grd (0 < (2147483647 : Int)) ((some ((((x65 + ((7919 : Int) * x66)) + (13 : Int)) % (2147483647 : Int)) : Int)).bind fun x67 => grd ((sm x67 || sm (x67 + (48271 : Int))) = true) (grd (0 < (2147483629 : Int)) ((some (((x67 * (x67 + (48271 : Int))) % (2147483629 : Int)) : Int)).bind fun x69 => grd ((sm x69 || sm (x69 + (69621 : Int))) = true) ((atI (a1.set ((ixN a1.length (1 : Int)).getD 0) (x56 + (1 : Int))) (1 : Int)).bind fun x71 => grd ((sm (31 : Int) || sm x71) = true) (grd (0 < (2147483647 : Int)) ((some ((((x69 * (x69 + (69621 : Int))) + ((31 : Int) * x71)) % (2147483647 : Int)) : Int)).bind fun x72 => grd (dv (9 : Int) = true) (grd (0 < a2) (some (((x72 / (9 : Int)) % a2), (a1.set ((ixN a1.length (1 : Int)).getD 0) (x56 + (1 : Int)))))))))))))
@[irreducible] def M_l_word (a1 : List Int) : Option (Str × (List Int)) :=
  (some (("abcdefghijklmnopqrstuvwxyz" : Str) : Str)).bind fun x74 => grd (x74.length + ("_0123456789" : Str).length ≤ sizeLine) ((some ((x74 ++ ("_0123456789" : Str)) : Str)).bind fun x76 => (M_l_next a1 (26 : Int)).bind fun r78 => grd (x74.length ≤ sizeLine) ((atI x74.cps.toList (r78.1)).bind fun x79 => (some ((⟨#[x79]⟩ : Str) : Str)).bind fun x80 => (M_l_next (r78.2) (8 : Int)).bind fun r82 => (atI ([(0 : Int), (0 : Int), (1 : Int), (1 : Int), (2 : Int), (4 : Int), (9 : Int), (19 : Int)]) (r82.1)).bind fun x83 => grd (rg x83 = true) ((forS (rngL 0 x83.toNat) ((x80, r82.2) : Str × (List Int)) fun x86 s85 => (M_l_next (s85.2) (37 : Int)).bind fun r88 => grd (x76.length ≤ sizeLine) ((atI x76.cps.toList (r88.1)).bind fun x89 => grd ((s85.1).length + (⟨#[x89]⟩ : Str).length ≤ sizeLine) ((some (((s85.1) ++ (⟨#[x89]⟩ : Str)) : Str)).bind fun x90 => some (x90, r88.2)))).bind fun s87 => some (s87.1, s87.2))))
@[irreducible] def M_l_number (a1 : List Int) (a2 : Int) : Option (Int × (List Int)) :=
  (M_l_next a1 (19 : Int)).bind fun r92 => (some (((r92.1) - (9 : Int)) : Int)).bind fun x93 => (M_l_next (r92.2) (4 : Int)).bind fun r95 => if (decide ((0 : Int) < (r95.1))) = true then some (x93, r95.2) else grd ((sm x93 || sm a2) = true) ((M_l_next (r95.2) ((10 : Int) ^ (9 : Int).toNat)).bind fun r97 => some (((x93 * a2) + (r97.1)), r97.2))
@[irreducible] def M_l_drawn_side (a1 : List Int) : Option ((List Int) × (List Int)) :=
  (M_l_next a1 (6 : Int)).bind fun r98 => (atI ([(1 : Int), (1 : Int), (1 : Int), (7 : Int), ((10 : Int) ^ (9 : Int).toNat), ((10 : Int) ^ (10 : Int).toNat)]) (r98.1)).bind fun x99 => (some (x99 : Int)).bind fun x100 => (M_l_next (r98.2) (9 : Int)).bind fun r102 => (some (((r102.1) - (4 : Int)) : Int)).bind fun x103 => (some ([] : List Int)).bind fun x105 => (M_l_next (r102.2) (5 : Int)).bind fun r109 => grd (rg (r109.1) = true) ((forS (rngL 0 (r109.1).toNat) ((x103, x105, r109.2) : Int × (List Int) × (List Int)) fun x112 s111 => grd ((sm (s111.1) || sm x100) = true) (grd ((s111.2.1).length < sizeLine) ((M_l_next (s111.2.2) (3 : Int)).bind fun r116 => (some ((((s111.1) + (1 : Int)) + (r116.1)) : Int)).bind fun x117 => some (x117, ((s111.2.1) ++ [((s111.1) * x100)]), r116.2)))).bind fun s113 => some (s113.2.1, s113.2.2))
@[irreducible] def M_l_drawn_sides (a1 : List Int) : Option ((List (Str × List Int)) × (List Int)) :=
  (some (([] : List (Str × List Int)) : List (Str × List Int))).bind fun x119 => (M_l_next a1 (6 : Int)).bind fun r123 => grd (rg (r123.1) = true) ((forS (rngL 0 (r123.1).toNat) ((x119, r123.2) : (List (Str × List Int)) × (List Int)) fun x126 s125 => (M_l_word (s125.2)).bind fun r129 => (some (r129.1 : Str)).bind fun x130 => (M_l_drawn_side (r129.2)).bind fun r132 => grd ((s125.1).length < sizeLine) (some ((dput (s125.1) x130 (r132.1)), r132.2))).bind fun s127 => some (s127.1, s127.2))
@[irreducible] def M_l_drawn_certificate (a1 : List Int) : Option ((Str × (Str ⊕ (List (Int ⊕ (Str ⊕ (List Int)))))) × (List Int)) :=
  (M_l_next a1 (7 : Int)).bind fun r134 => (atI ([("empty" : Str), ("blame" : Str), ("crowd" : Str), ("full" : Str), ("climb" : Str), ("want" : Str), ("layers" : Str)]) (r134.1)).bind fun x135 => (some (x135 : Str)).bind fun x136 => if (decide (x136 = ("empty" : Str))) = true then (M_l_word (r134.2)).bind fun r139 => some ((x136, (.inl (r139.1) : (Str ⊕ (List (Int ⊕ (Str ⊕ (List Int))))))), r139.2) else (M_l_next (r134.2) (6 : Int)).bind fun r140 => (some (r140.1 : Int)).bind fun x141 => if ((decide (x136 = ("blame" : Str))) || (decide (x136 = ("crowd" : Str)))) = true then grd (rg x141 = true) ((compM (rngL 0 x141.toNat) (r140.2) (fun x145 s147 => if true = true then (M_l_word s147).bind fun r149 => some (some (.inr (.inl (r149.1) : (Str ⊕ (List Int))) : (Int ⊕ (Str ⊕ (List Int)))), r149.2) else some (none, s147))).bind fun r150 => some ((x136, (.inr (r150.1) : (Str ⊕ (List (Int ⊕ (Str ⊕ (List Int))))))), r150.2)) else if (decide (x136 = ("layers" : Str))) = true then grd (rg ((1 : Int) + x141) = true) ((compM (rngL 0 ((1 : Int) + x141).toNat) (r140.2) (fun x153 s155 => if true = true then (M_l_drawn_side s155).bind fun r157 => some (some (.inr (.inr (r157.1) : (Str ⊕ (List Int))) : (Int ⊕ (Str ⊕ (List Int)))), r157.2) else some (none, s155))).bind fun r158 => some ((x136, (.inr (r158.1) : (Str ⊕ (List (Int ⊕ (Str ⊕ (List Int))))))), r158.2)) else grd (rg x141 = true) ((compM (rngL 0 x141.toNat) (r140.2) (fun x160 s162 => if true = true then (M_l_number s162 ((10 : Int) ^ (29 : Int).toNat)).bind fun r164 => some (some (.inl (r164.1) : (Int ⊕ (Str ⊕ (List Int)))), r164.2) else some (none, s162))).bind fun r165 => some ((x136, (.inr (r165.1) : (Str ⊕ (List (Int ⊕ (Str ⊕ (List Int))))))), r165.2))
@[irreducible] def M_l_log_line (a1 : List Int) (a2 : List Str) (a3 : Int) : Option (((Str × List (Str × List Int) × Str) ⊕ ((Str × List (Str × List Int) × Str × (Str × (Str ⊕ (List (Int ⊕ (Str ⊕ (List Int))))))) ⊕ (Str × List (Str × List Int) × Str × Int × Int))) × (List Int)) :=
  (M_l_drawn_sides a1).bind fun r166 => (some (r166.1 : List (Str × List Int))).bind fun x167 => (M_l_next (r166.2) (8 : Int)).bind fun r169 => (some (r169.1 : Int)).bind fun x170 => if ((decide ((2 : Int) < x170)) && (decide ((0 : Int) < a3))) = true then (M_l_next (r169.2) a3).bind fun r173 => (some (((1 : Int) + (r173.1)) : Int)).bind fun x174 => (M_l_word (r173.2)).bind fun r176 => (M_l_next (r176.2) a3).bind fun r177 => some ((.inr (.inr (("join" : Str), x167, r176.1, x174, ((1 : Int) + (r177.1))) : ((Str × List (Str × List Int) × Str × (Str × (Str ⊕ (List (Int ⊕ (Str ⊕ (List Int))))))) ⊕ (Str × List (Str × List Int) × Str × Int × Int))) : ((Str × List (Str × List Int) × Str) ⊕ ((Str × List (Str × List Int) × Str × (Str × (Str ⊕ (List (Int ⊕ (Str ⊕ (List Int))))))) ⊕ (Str × List (Str × List Int) × Str × Int × Int)))), r177.2) else if (decide (x170 = (0 : Int))) = true then (M_l_word (r169.2)).bind fun r179 => some ((.inl (("void" : Str), x167, r179.1) : ((Str × List (Str × List Int) × Str) ⊕ ((Str × List (Str × List Int) × Str × (Str × (Str ⊕ (List (Int ⊕ (Str ⊕ (List Int))))))) ⊕ (Str × List (Str × List Int) × Str × Int × Int)))), r179.2) else (M_l_next (r169.2) (a2.length : Int)).bind fun r180 => (atI a2 (r180.1)).bind fun x181 => (M_l_drawn_certificate (r180.2)).bind fun r182 => some ((.inr (.inl (("rule" : Str), x167, x181, r182.1) : ((Str × List (Str × List Int) × Str × (Str × (Str ⊕ (List (Int ⊕ (Str ⊕ (List Int))))))) ⊕ (Str × List (Str × List Int) × Str × Int × Int))) : ((Str × List (Str × List Int) × Str) ⊕ ((Str × List (Str × List Int) × Str × (Str × (Str ⊕ (List (Int ⊕ (Str ⊕ (List Int))))))) ⊕ (Str × List (Str × List Int) × Str × Int × Int)))), r182.2)
@[irreducible] def M_l_certificate_copy (a1 : (Str × (Str ⊕ (List (Int ⊕ (Str ⊕ (List Int))))))) : Option ((Str × (Str ⊕ (List (Int ⊕ (Str ⊕ (List Int))))))) :=
  if (decide (a1.1 = ("empty" : Str))) = true then some (a1.1, a1.2) else if (decide (a1.1 = ("layers" : Str))) = true then (smR a1.2).bind fun u185 => (compM u185 () (fun x187 s190 => if true = true then (smR x187).bind fun u192 => (smR u192).bind fun u193 => some (some (.inr (.inr u193 : (Str ⊕ (List Int))) : (Int ⊕ (Str ⊕ (List Int)))), ()) else some (none, ()))).bind fun r194 => some (a1.1, (.inr (r194.1) : (Str ⊕ (List (Int ⊕ (Str ⊕ (List Int))))))) else (smR a1.2).bind fun u195 => some (a1.1, (.inr u195 : (Str ⊕ (List (Int ⊕ (Str ⊕ (List Int)))))))
@[irreducible] def M_l_copied (a1 : List (Str × List Int)) : Option (List (Str × List Int)) :=
  (some (([] : List (Str × List Int)) : List (Str × List Int))).bind fun x196 => (forS (a1.map Prod.fst) (x196 : (List (Str × List Int))) fun x202 s201 => (dget a1 x202).bind fun x205 => grd (s201.length < sizeLine) (some (dput s201 x202 x205))).bind fun s203 => some s203
@[irreducible] def M_l_line_copy (a1 : ((Str × List (Str × List Int) × Str) ⊕ ((Str × List (Str × List Int) × Str × (Str × (Str ⊕ (List (Int ⊕ (Str ⊕ (List Int))))))) ⊕ (Str × List (Str × List Int) × Str × Int × Int)))) : Option (((Str × List (Str × List Int) × Str) ⊕ ((Str × List (Str × List Int) × Str × (Str × (Str ⊕ (List (Int ⊕ (Str ⊕ (List Int))))))) ⊕ (Str × List (Str × List Int) × Str × Int × Int)))) :=
  ((Sum.elim (fun (x_ : (Str × List (Str × List Int) × Str)) => some x_.1) (Sum.elim (fun (x_ : (Str × List (Str × List Int) × Str × (Str × (Str ⊕ (List (Int ⊕ (Str ⊕ (List Int)))))))) => some x_.1) (fun (x_ : (Str × List (Str × List Int) × Str × Int × Int)) => some x_.1))) a1).bind fun u207 => if (decide (u207 = ("answer" : Str))) = true then none else ((Sum.elim (fun (x_ : (Str × List (Str × List Int) × Str)) => some x_.1) (Sum.elim (fun (x_ : (Str × List (Str × List Int) × Str × (Str × (Str ⊕ (List (Int ⊕ (Str ⊕ (List Int)))))))) => some x_.1) (fun (x_ : (Str × List (Str × List Int) × Str × Int × Int)) => some x_.1))) a1).bind fun u209 => if (decide (u209 = ("rule" : Str))) = true then ((Sum.elim (fun (_ : (Str × List (Str × List Int) × Str)) => (none : Option (List (Str × List Int)))) (Sum.elim (fun (x_ : (Str × List (Str × List Int) × Str × (Str × (Str ⊕ (List (Int ⊕ (Str ⊕ (List Int)))))))) => some x_.2.1) (fun (_ : (Str × List (Str × List Int) × Str × Int × Int)) => (none : Option (List (Str × List Int)))))) a1).bind fun u211 => (M_l_copied u211).bind fun r212 => ((Sum.elim (fun (_ : (Str × List (Str × List Int) × Str)) => (none : Option Str)) (Sum.elim (fun (x_ : (Str × List (Str × List Int) × Str × (Str × (Str ⊕ (List (Int ⊕ (Str ⊕ (List Int)))))))) => some x_.2.2.1) (fun (_ : (Str × List (Str × List Int) × Str × Int × Int)) => (none : Option Str)))) a1).bind fun u213 => ((Sum.elim (fun (_ : (Str × List (Str × List Int) × Str)) => (none : Option (Str × (Str ⊕ (List (Int ⊕ (Str ⊕ (List Int)))))))) (Sum.elim (fun (x_ : (Str × List (Str × List Int) × Str × (Str × (Str ⊕ (List (Int ⊕ (Str ⊕ (List Int)))))))) => some x_.2.2.2) (fun (_ : (Str × List (Str × List Int) × Str × Int × Int)) => (none : Option (Str × (Str ⊕ (List (Int ⊕ (Str ⊕ (List Int)))))))))) a1).bind fun u214 => (M_l_certificate_copy u214).bind fun r215 => some (.inr (.inl (("rule" : Str), r212, u213, r215) : ((Str × List (Str × List Int) × Str × (Str × (Str ⊕ (List (Int ⊕ (Str ⊕ (List Int))))))) ⊕ (Str × List (Str × List Int) × Str × Int × Int))) : ((Str × List (Str × List Int) × Str) ⊕ ((Str × List (Str × List Int) × Str × (Str × (Str ⊕ (List (Int ⊕ (Str ⊕ (List Int))))))) ⊕ (Str × List (Str × List Int) × Str × Int × Int)))) else ((Sum.elim (fun (x_ : (Str × List (Str × List Int) × Str)) => some x_.1) (Sum.elim (fun (x_ : (Str × List (Str × List Int) × Str × (Str × (Str ⊕ (List (Int ⊕ (Str ⊕ (List Int)))))))) => some x_.1) (fun (x_ : (Str × List (Str × List Int) × Str × Int × Int)) => some x_.1))) a1).bind fun u216 => if (decide (u216 = ("join" : Str))) = true then ((Sum.elim (fun (_ : (Str × List (Str × List Int) × Str)) => (none : Option (List (Str × List Int)))) (Sum.elim (fun (_ : (Str × List (Str × List Int) × Str × (Str × (Str ⊕ (List (Int ⊕ (Str ⊕ (List Int)))))))) => (none : Option (List (Str × List Int)))) (fun (x_ : (Str × List (Str × List Int) × Str × Int × Int)) => some x_.2.1))) a1).bind fun u218 => (M_l_copied u218).bind fun r219 => ((Sum.elim (fun (_ : (Str × List (Str × List Int) × Str)) => (none : Option Str)) (Sum.elim (fun (_ : (Str × List (Str × List Int) × Str × (Str × (Str ⊕ (List (Int ⊕ (Str ⊕ (List Int)))))))) => (none : Option Str)) (fun (x_ : (Str × List (Str × List Int) × Str × Int × Int)) => some x_.2.2.1))) a1).bind fun u220 => ((Sum.elim (fun (_ : (Str × List (Str × List Int) × Str)) => (none : Option Int)) (Sum.elim (fun (_ : (Str × List (Str × List Int) × Str × (Str × (Str ⊕ (List (Int ⊕ (Str ⊕ (List Int)))))))) => (none : Option Int)) (fun (x_ : (Str × List (Str × List Int) × Str × Int × Int)) => some x_.2.2.2.1))) a1).bind fun u221 => ((Sum.elim (fun (_ : (Str × List (Str × List Int) × Str)) => (none : Option Int)) (Sum.elim (fun (_ : (Str × List (Str × List Int) × Str × (Str × (Str ⊕ (List (Int ⊕ (Str ⊕ (List Int)))))))) => (none : Option Int)) (fun (x_ : (Str × List (Str × List Int) × Str × Int × Int)) => some x_.2.2.2.2))) a1).bind fun u222 => some (.inr (.inr (("join" : Str), r219, u220, u221, u222) : ((Str × List (Str × List Int) × Str × (Str × (Str ⊕ (List (Int ⊕ (Str ⊕ (List Int))))))) ⊕ (Str × List (Str × List Int) × Str × Int × Int))) : ((Str × List (Str × List Int) × Str) ⊕ ((Str × List (Str × List Int) × Str × (Str × (Str ⊕ (List (Int ⊕ (Str ⊕ (List Int))))))) ⊕ (Str × List (Str × List Int) × Str × Int × Int)))) else ((Sum.elim (fun (x_ : (Str × List (Str × List Int) × Str)) => some x_.1) (Sum.elim (fun (x_ : (Str × List (Str × List Int) × Str × (Str × (Str ⊕ (List (Int ⊕ (Str ⊕ (List Int)))))))) => some x_.1) (fun (x_ : (Str × List (Str × List Int) × Str × Int × Int)) => some x_.1))) a1).bind fun u223 => if (decide (u223 = ("worse" : Str))) = true then none else ((Sum.elim (fun (x_ : (Str × List (Str × List Int) × Str)) => some x_.1) (Sum.elim (fun (x_ : (Str × List (Str × List Int) × Str × (Str × (Str ⊕ (List (Int ⊕ (Str ⊕ (List Int)))))))) => some x_.1) (fun (x_ : (Str × List (Str × List Int) × Str × Int × Int)) => some x_.1))) a1).bind fun u225 => ((Sum.elim (fun (x_ : (Str × List (Str × List Int) × Str)) => some x_.2.1) (Sum.elim (fun (x_ : (Str × List (Str × List Int) × Str × (Str × (Str ⊕ (List (Int ⊕ (Str ⊕ (List Int)))))))) => some x_.2.1) (fun (x_ : (Str × List (Str × List Int) × Str × Int × Int)) => some x_.2.1))) a1).bind fun u226 => (M_l_copied u226).bind fun r227 => ((Sum.elim (fun (x_ : (Str × List (Str × List Int) × Str)) => some x_.2.2) (Sum.elim (fun (x_ : (Str × List (Str × List Int) × Str × (Str × (Str ⊕ (List (Int ⊕ (Str ⊕ (List Int)))))))) => some x_.2.2.1) (fun (x_ : (Str × List (Str × List Int) × Str × Int × Int)) => some x_.2.2.1))) a1).bind fun u228 => some (.inl (u225, r227, u228) : ((Str × List (Str × List Int) × Str) ⊕ ((Str × List (Str × List Int) × Str × (Str × (Str ⊕ (List (Int ⊕ (Str ⊕ (List Int))))))) ⊕ (Str × List (Str × List Int) × Str × Int × Int))))
@[irreducible] def M_l_ascending (a1 : List Str) : Option (List Str) :=
  (some ([] : List Str)).bind fun x229 => (forS a1 (x229 : (List Str)) fun x233 s232 => (some ((0 : Int) : Int)).bind fun x235 => (forS s232 (x235 : Int) fun x239 s238 => (if (ltS x239 x233) = true then (some ((s238 + (1 : Int)) : Int)).bind fun x245 => some x245 else some s238).bind fun s244 => some s244).bind fun s240 => grd ((cutL s232 none (some s240)).length + ([x233]).length ≤ sizeLine) (grd (((cutL s232 none (some s240)) ++ ([x233])).length + (cutL s232 (some s240) none).length ≤ sizeLine) ((some ((((cutL s232 none (some s240)) ++ ([x233])) ++ (cutL s232 (some s240) none)) : List Str)).bind fun x241 => some x241))).bind fun s234 => some s234
@[irreducible] def M_l_same_words (a1 : List Str) (a2 : List Str) : Option (Bool) :=
  if ((!true) || (!decide ((a1.length : Int) = (a2.length : Int)))) = true then some false else grd (rg (a2.length : Int) = true) ((forL (rngL 0 (a2.length : Int).toNat) (() : Unit) fun x250 s249 => (atI a1 x250).bind fun x253 => ((if (!true) = true then some (true, ()) else (atI a1 x250).bind fun x256 => (atI a2 x250).bind fun x257 => some ((!decide (x256 = x257)), ()))).bind fun c258 => if c258.1 = true then inB (some (Tm.rt false)) else some (Bo.nx ())).bind (boK (fun s251 => some true) id))
@[irreducible] def M_l_rests (a1 : ((Str × List (Str × List Int) × Str) ⊕ ((Str × List (Str × List Int) × Str × (Str × (Str ⊕ (List (Int ⊕ (Str ⊕ (List Int))))))) ⊕ (Str × List (Str × List Int) × Str × Int × Int)))) (a2 : List (List Str)) : Option ((List Str) × (List (List Str))) :=
  ((Sum.elim (fun (x_ : (Str × List (Str × List Int) × Str)) => some x_.1) (Sum.elim (fun (x_ : (Str × List (Str × List Int) × Str × (Str × (Str ⊕ (List (Int ⊕ (Str ⊕ (List Int)))))))) => some x_.1) (fun (x_ : (Str × List (Str × List Int) × Str × Int × Int)) => some x_.1))) a1).bind fun u260 => if (decide (u260 = ("rule" : Str))) = true then ((Sum.elim (fun (_ : (Str × List (Str × List Int) × Str)) => (none : Option Str)) (Sum.elim (fun (x_ : (Str × List (Str × List Int) × Str × (Str × (Str ⊕ (List (Int ⊕ (Str ⊕ (List Int)))))))) => some x_.2.2.1) (fun (_ : (Str × List (Str × List Int) × Str × Int × Int)) => (none : Option Str)))) a1).bind fun u262 => some ([u262], a2) else (some ([] : List Str)).bind fun x263 => ((Sum.elim (fun (x_ : (Str × List (Str × List Int) × Str)) => some x_.1) (Sum.elim (fun (x_ : (Str × List (Str × List Int) × Str × (Str × (Str ⊕ (List (Int ⊕ (Str ⊕ (List Int)))))))) => some x_.1) (fun (x_ : (Str × List (Str × List Int) × Str × Int × Int)) => some x_.1))) a1).bind fun u267 => (if (decide (u267 = ("join" : Str))) = true then ((Sum.elim (fun (_ : (Str × List (Str × List Int) × Str)) => (none : Option Int)) (Sum.elim (fun (_ : (Str × List (Str × List Int) × Str × (Str × (Str ⊕ (List (Int ⊕ (Str ⊕ (List Int)))))))) => (none : Option Int)) (fun (x_ : (Str × List (Str × List Int) × Str × Int × Int)) => some x_.2.2.2.1))) a1).bind fun u271 => (atI a2 (u271 - (1 : Int))).bind fun x272 => ((Sum.elim (fun (_ : (Str × List (Str × List Int) × Str)) => (none : Option Int)) (Sum.elim (fun (_ : (Str × List (Str × List Int) × Str × (Str × (Str ⊕ (List (Int ⊕ (Str ⊕ (List Int)))))))) => (none : Option Int)) (fun (x_ : (Str × List (Str × List Int) × Str × Int × Int)) => some x_.2.2.2.2))) a1).bind fun u273 => (atI a2 (u273 - (1 : Int))).bind fun x274 => grd (x272.length + x274.length ≤ sizeLine) ((forS (x272 ++ x274) (x263 : (List Str)) fun x277 s276 => (if (!decide (x277 ∈ s276)) = true then grd (s276.length < sizeLine) (some (s276 ++ [x277])) else some s276).bind fun s280 => some s280).bind fun s278 => some s278) else some x263).bind fun s269 => (M_l_ascending s269).bind fun r270 => some (r270, a2)
@[irreducible] def M_l_unknown (a1 : List ((Str × List (Str × List Int) × Str) ⊕ ((Str × List (Str × List Int) × Str × (Str × (Str ⊕ (List (Int ⊕ (Str ⊕ (List Int))))))) ⊕ (Str × List (Str × List Int) × Str × Int × Int)))) (a2 : Int) : Option (Bool) :=
  ((M_rests_on a1 a2).bind (xK (fun e => Bo.tm ((Except.error) e)) fun r283 => some (Bo.nx ()))).bind (tryK (fun s282 => some false) id (fun e => subC e.cn "UnknownLine") (fun e285 => if ((subC e285.cn "UnknownKey") || ((subC e285.cn "BadLine") || (!(subC e285.cn "DeskError")))) = true then inB (some false) else inB (((if (subC e285.cn "ValueError") = true then (erF e285 "number").bind fun y292 => (FV.int? y292).bind fun z293 => (M_l_is_integer z293).bind fun r294 => ((if r294 = true then (erF e285 "number").bind fun y297 => (FV.int? y297).bind fun z298 => some ((decide (z298 = a2)), ()) else some (false, ()))).bind fun c299 => some (c299.1, ()) else some (false, ()))).bind fun c300 => some (c300.1))) (fun _ => none))
@[irreducible] def M_l_keys_hold (a1 : List ((Str × List (Str × List Int) × Str) ⊕ ((Str × List (Str × List Int) × Str × (Str × (Str ⊕ (List (Int ⊕ (Str ⊕ (List Int))))))) ⊕ (Str × List (Str × List Int) × Str × Int × Int)))) (a2 : Int) (a3 : List Str) : Option (Bool) :=
  ((M_rests_on a1 a2).bind okx).bind fun r301 => (some (r301 : List Str)).bind fun x302 => (M_l_same_words x302 a3).bind fun r306 => if (!r306) = true then some false else grd (x302.length < sizeLine) (((M_rests_on a1 a2).bind okx).bind fun r309 => (M_l_same_words r309 a3).bind fun r310 => some r310)
@[irreducible] def M_l_long_holds (a1 : Int) : Option (Bool) :=
  (some ([(.inl (("void" : Str), ([] : List (Str × List Int)), ("x" : Str)) : ((Str × List (Str × List Int) × Str) ⊕ ((Str × List (Str × List Int) × Str × (Str × (Str ⊕ (List (Int ⊕ (Str ⊕ (List Int))))))) ⊕ (Str × List (Str × List Int) × Str × Int × Int)))), (.inr (.inl (("rule" : Str), ([] : List (Str × List Int)), ("key_1" : Str), (("blame" : Str), (.inr ([]) : (Str ⊕ (List (Int ⊕ (Str ⊕ (List Int)))))))) : ((Str × List (Str × List Int) × Str × (Str × (Str ⊕ (List (Int ⊕ (Str ⊕ (List Int))))))) ⊕ (Str × List (Str × List Int) × Str × Int × Int))) : ((Str × List (Str × List Int) × Str) ⊕ ((Str × List (Str × List Int) × Str × (Str × (Str ⊕ (List (Int ⊕ (Str ⊕ (List Int))))))) ⊕ (Str × List (Str × List Int) × Str × Int × Int))))] : List ((Str × List (Str × List Int) × Str) ⊕ ((Str × List (Str × List Int) × Str × (Str × (Str ⊕ (List (Int ⊕ (Str ⊕ (List Int))))))) ⊕ (Str × List (Str × List Int) × Str × Int × Int))))).bind fun x311 => grd (rg a1 = true) ((forS (rngL 0 a1.toNat) (x311 : (List ((Str × List (Str × List Int) × Str) ⊕ ((Str × List (Str × List Int) × Str × (Str × (Str ⊕ (List (Int ⊕ (Str ⊕ (List Int))))))) ⊕ (Str × List (Str × List Int) × Str × Int × Int))))) fun x317 s316 => grd (s316.length < sizeLine) (some (s316 ++ [(.inr (.inr (("join" : Str), ([] : List (Str × List Int)), ("x" : Str), (x317 + (2 : Int)), (x317 + (2 : Int))) : ((Str × List (Str × List Int) × Str × (Str × (Str ⊕ (List (Int ⊕ (Str ⊕ (List Int))))))) ⊕ (Str × List (Str × List Int) × Str × Int × Int))) : ((Str × List (Str × List Int) × Str) ⊕ ((Str × List (Str × List Int) × Str × (Str × (Str ⊕ (List (Int ⊕ (Str ⊕ (List Int))))))) ⊕ (Str × List (Str × List Int) × Str × Int × Int))))]))).bind fun s318 => ((M_rests_on s318 (a1 + (2 : Int))).bind okx).bind fun r319 => grd (okG (dgL dgStr) r319 ([("key_1" : Str)]) = true) (((if (decide (r319 = ([("key_1" : Str)]))) = true then ((M_rests_on s318 (1 : Int)).bind okx).bind fun r321 => grd (okG (dgL dgStr) r321 ([]) = true) (some ((decide (r321 = ([]))), ())) else some (false, ()))).bind fun c322 => some (c322.1)))
@[irreducible] def M_law (a1 : List Int) : Option (Bool) :=
  (M_l_stream a1 (0 : Int)).bind fun r324 => (some (r324 : List Int)).bind fun x325 => (M_l_next x325 (4 : Int)).bind fun r329 => grd (rg ((1 : Int) + (r329.1)) = true) ((compM (rngL 0 ((1 : Int) + (r329.1)).toNat) (r329.2) (fun x331 s333 => if true = true then (M_l_word s333).bind fun r335 => some (some (r335.1), r335.2) else some (none, s333))).bind fun r336 => (some (r336.1 : List Str)).bind fun x337 => (M_l_next (r336.2) (6 : Int)).bind fun r341 => (atI ([(12 : Int), (12 : Int), (12 : Int), (12 : Int), (12 : Int), (40 : Int)]) (r341.1)).bind fun x342 => (some (x342 : Int)).bind fun x343 => (some ([] : List ((Str × List (Str × List Int) × Str) ⊕ ((Str × List (Str × List Int) × Str × (Str × (Str ⊕ (List (Int ⊕ (Str ⊕ (List Int))))))) ⊕ (Str × List (Str × List Int) × Str × Int × Int))))).bind fun x345 => (some ([] : List (List Str))).bind fun x349 => grd (rg (min (max (1 : Int) ((a1.length : Int) - (1 : Int))) x343) = true) ((forS (rngL 0 (min (max (1 : Int) ((a1.length : Int) - (1 : Int))) x343).toNat) ((x349, x345) : (List (List Str)) × (List ((Str × List (Str × List Int) × Str) ⊕ ((Str × List (Str × List Int) × Str × (Str × (Str ⊕ (List (Int ⊕ (Str ⊕ (List Int))))))) ⊕ (Str × List (Str × List Int) × Str × Int × Int))))) fun x355 s354 => (M_l_stream a1 ((1 : Int) + x355)).bind fun r401 => (M_l_log_line r401 x337 x355).bind fun r403 => (some (r403.1 : ((Str × List (Str × List Int) × Str) ⊕ ((Str × List (Str × List Int) × Str × (Str × (Str ⊕ (List (Int ⊕ (Str ⊕ (List Int))))))) ⊕ (Str × List (Str × List Int) × Str × Int × Int))))).bind fun x404 => grd ((s354.2).length < sizeLine) ((M_l_rests x404 (s354.1)).bind fun r407 => grd ((r407.2).length < sizeLine) (some (((r407.2) ++ [r407.1]), ((s354.2) ++ [x404]))))).bind fun s356 => (compM (s356.2) () (fun x358 s360 => if true = true then (M_l_line_copy x358).bind fun r362 => some (some r362, ()) else some (none, ()))).bind fun r363 => (some (r363.1 : List ((Str × List (Str × List Int) × Str) ⊕ ((Str × List (Str × List Int) × Str × (Str × (Str ⊕ (List (Int ⊕ (Str ⊕ (List Int))))))) ⊕ (Str × List (Str × List Int) × Str × Int × Int))))).bind fun x364 => grd (dv (2 : Int) = true) ((some ((cutL x364 none (some ((x364.length : Int) / (2 : Int)))) : List ((Str × List (Str × List Int) × Str) ⊕ ((Str × List (Str × List Int) × Str × (Str × (Str ⊕ (List (Int ⊕ (Str ⊕ (List Int))))))) ⊕ (Str × List (Str × List Int) × Str × Int × Int))))).bind fun x368 => grd (rg ((s356.2).length : Int) = true) ((forL (rngL 0 ((s356.2).length : Int).toNat) (() : Unit) fun x372 s371 => (atI (s356.1) x372).bind fun x392 => (M_l_keys_hold x364 (x372 + (1 : Int)) x392).bind fun r393 => if (!r393) = true then inB (some (Tm.rt false)) else ((if (decide (x372 < (x368.length : Int))) = true then (atI (s356.1) x372).bind fun x397 => (M_l_keys_hold x368 (x372 + (1 : Int)) x397).bind fun r398 => some ((!r398), ()) else some (false, ()))).bind fun c399 => if c399.1 = true then inB (some (Tm.rt false)) else some (Bo.nx ())).bind (boK (fun s373 => (forL ([(0 : Int), (-(1 : Int)), (((s356.2).length : Int) + (1 : Int)), ((10 : Int) ^ (30 : Int).toNat)]) (() : Unit) fun x376 s375 => (M_l_unknown x364 x376).bind fun r387 => ((if (!r387) = true then some (true, ()) else (M_l_unknown ([]) x376).bind fun r389 => some ((!r389), ()))).bind fun c390 => if c390.1 = true then inB (some (Tm.rt false)) else some (Bo.nx ())).bind (boK (fun s377 => (M_l_unknown x368 ((x368.length : Int) + (1 : Int))).bind fun r378 => ((if (!r378) = true then some (true, ()) else grd (lokG (deSm (deT3 (deG dgStr injStr (of_decide_eq_true rfl)) (deM (κ := Str) (deG (dgL dgInt) (injL injInt) (of_decide_eq_true rfl))) (deG dgStr injStr (of_decide_eq_true rfl))) (deSm (deT4 (deG dgStr injStr (of_decide_eq_true rfl)) (deM (κ := Str) (deG (dgL dgInt) (injL injInt) (of_decide_eq_true rfl))) (deG dgStr injStr (of_decide_eq_true rfl)) (deT2 (deG dgStr injStr (of_decide_eq_true rfl)) (deSm (deG dgStr injStr (of_decide_eq_true rfl)) (deL (deSm (deG dgInt injInt (of_decide_eq_true rfl)) (deSm (deG dgStr injStr (of_decide_eq_true rfl)) (deG (dgL dgInt) (injL injInt) (of_decide_eq_true rfl)))))))) (deT5 (deG dgStr injStr (of_decide_eq_true rfl)) (deM (κ := Str) (deG (dgL dgInt) (injL injInt) (of_decide_eq_true rfl))) (deG dgStr injStr (of_decide_eq_true rfl)) (deG dgInt injInt (of_decide_eq_true rfl)) (deG dgInt injInt (of_decide_eq_true rfl))))).ok x364 (s356.2) = true) (some ((!leqG (deSm (deT3 (deG dgStr injStr (of_decide_eq_true rfl)) (deM (κ := Str) (deG (dgL dgInt) (injL injInt) (of_decide_eq_true rfl))) (deG dgStr injStr (of_decide_eq_true rfl))) (deSm (deT4 (deG dgStr injStr (of_decide_eq_true rfl)) (deM (κ := Str) (deG (dgL dgInt) (injL injInt) (of_decide_eq_true rfl))) (deG dgStr injStr (of_decide_eq_true rfl)) (deT2 (deG dgStr injStr (of_decide_eq_true rfl)) (deSm (deG dgStr injStr (of_decide_eq_true rfl)) (deL (deSm (deG dgInt injInt (of_decide_eq_true rfl)) (deSm (deG dgStr injStr (of_decide_eq_true rfl)) (deG (dgL dgInt) (injL injInt) (of_decide_eq_true rfl)))))))) (deT5 (deG dgStr injStr (of_decide_eq_true rfl)) (deM (κ := Str) (deG (dgL dgInt) (injL injInt) (of_decide_eq_true rfl))) (deG dgStr injStr (of_decide_eq_true rfl)) (deG dgInt injInt (of_decide_eq_true rfl)) (deG dgInt injInt (of_decide_eq_true rfl))))).eqv x364 (s356.2)), ())))).bind fun c379 => if c379.1 = true then some false else (M_l_next (r341.2) (16 : Int)).bind fun r381 => ((if (decide ((r381.1) < (15 : Int))) = true then some (true, r381.2) else (M_l_next (r381.2) (1500 : Int)).bind fun r384 => (M_l_long_holds ((1 : Int) + (r384.1))).bind fun r385 => some (r385, r384.2))).bind fun c386 => some (c386.1)) id)) id)))))
end My
end
section
set_option maxHeartbeats 4000000
set_option synthInstance.maxSize 2000
namespace My
open PySem PySem.Spec PyProof.Rows L2 L3
abbrev FnP (K : PySem.W.Frag) (x : Str) (st : Stmt) (f : Addr) (fd : FuncData) : Prop := FunD K x x (defArgs st) (defBody st) (defScope st) [] [] f fd
structure Ev (P : Program) (K : PySem.W.Frag) (mg : Str → Option Value) : Prop where
  xs : XsT P K mg rsL csL
  f_used_marks : ∃ (f : Addr) (fd : FuncData), FnP K "used_marks" (top 6) f fd ∧ mg "used_marks" = some (.ref f)
  f_rests_on : ∃ (f : Addr) (fd : FuncData), FnP K "rests_on" (top 7) f fd ∧ mg "rests_on" = some (.ref f)
  f_l_is_integer : ∃ (f : Addr) (fd : FuncData), FnP K "_law_is_integer" (top 9) f fd ∧ mg "_law_is_integer" = some (.ref f)
  f_l_stream : ∃ (f : Addr) (fd : FuncData), FnP K "_law_stream" (top 10) f fd ∧ mg "_law_stream" = some (.ref f)
  f_l_next : ∃ (f : Addr) (fd : FuncData), FnP K "_law_next" (top 11) f fd ∧ mg "_law_next" = some (.ref f)
  f_l_word : ∃ (f : Addr) (fd : FuncData), FnP K "_law_word" (top 12) f fd ∧ mg "_law_word" = some (.ref f)
  f_l_number : ∃ (f : Addr) (fd : FuncData), FnP K "_law_number" (top 13) f fd ∧ mg "_law_number" = some (.ref f)
  f_l_drawn_side : ∃ (f : Addr) (fd : FuncData), FnP K "_law_drawn_side" (top 14) f fd ∧ mg "_law_drawn_side" = some (.ref f)
  f_l_drawn_sides : ∃ (f : Addr) (fd : FuncData), FnP K "_law_drawn_sides" (top 15) f fd ∧ mg "_law_drawn_sides" = some (.ref f)
  f_l_drawn_certificate : ∃ (f : Addr) (fd : FuncData), FnP K "_law_drawn_certificate" (top 16) f fd ∧ mg "_law_drawn_certificate" = some (.ref f)
  f_l_log_line : ∃ (f : Addr) (fd : FuncData), FnP K "_law_log_line" (top 17) f fd ∧ mg "_law_log_line" = some (.ref f)
  f_l_certificate_copy : ∃ (f : Addr) (fd : FuncData), FnP K "_law_certificate_copy" (top 18) f fd ∧ mg "_law_certificate_copy" = some (.ref f)
  f_l_copied : ∃ (f : Addr) (fd : FuncData), FnP K "_law_copied" (top 19) f fd ∧ mg "_law_copied" = some (.ref f)
  f_l_line_copy : ∃ (f : Addr) (fd : FuncData), FnP K "_law_line_copy" (top 20) f fd ∧ mg "_law_line_copy" = some (.ref f)
  f_l_ascending : ∃ (f : Addr) (fd : FuncData), FnP K "_law_ascending" (top 21) f fd ∧ mg "_law_ascending" = some (.ref f)
  f_l_same_words : ∃ (f : Addr) (fd : FuncData), FnP K "_law_same_words" (top 22) f fd ∧ mg "_law_same_words" = some (.ref f)
  f_l_rests : ∃ (f : Addr) (fd : FuncData), FnP K "_law_rests" (top 23) f fd ∧ mg "_law_rests" = some (.ref f)
  f_l_unknown : ∃ (f : Addr) (fd : FuncData), FnP K "_law_unknown" (top 24) f fd ∧ mg "_law_unknown" = some (.ref f)
  f_l_keys_hold : ∃ (f : Addr) (fd : FuncData), FnP K "_law_keys_hold" (top 25) f fd ∧ mg "_law_keys_hold" = some (.ref f)
  f_l_long_holds : ∃ (f : Addr) (fd : FuncData), FnP K "_law_long_holds" (top 26) f fd ∧ mg "_law_long_holds" = some (.ref f)
  m_ValueError : mg "ValueError" = none
  m_bool : mg "bool" = none
  m_dict : mg "dict" = none
  m_int : mg "int" = none
  m_isinstance : mg "isinstance" = none
  m_len : mg "len" = none
  m_list : mg "list" = none
  m_max : mg "max" = none
  m_min : mg "min" = none
  m_range : mg "range" = none
  m_sorted : mg "sorted" = none
  m_str : mg "str" = none
  m_super : mg "super" = none
  m_zip : mg "zip" = none
end My
end
section
set_option maxHeartbeats 4000000
set_option synthInstance.maxSize 2000
namespace My
open PySem PySem.Spec PyProof.Rows L2 L3
section
variable {P : Program} {w : World} {K : PySem.W.Frag} {mg : Str → Option Value} {base : Heap}
theorem sc_used_marks : FnScope ["lines", "number", "marks", "k", "line"] ["lines", "number"] (defScope (top 6)) := ⟨rfl, rfl, rfl, by decide +kernel, rfl, by decide +kernel, by decide +kernel⟩
theorem ok_used_marks {f : Addr} {fd : FuncData} (C : Ev P K mg) (FD : FnP K "used_marks" (top 6) f fd)   : FnOk P w K mg base (L2.CX P w) 1 f fd ["lines", "number"] (SpXo (fun (a : (List ((Str × List (Str × List Int) × Str) ⊕ ((Str × List (Str × List Int) × Str × (Str × (Str ⊕ (List (Int ⊕ (Str ⊕ (List Int))))))) ⊕ (Str × List (Str × List Int) × Str × Int × Int)))) × Int) => ([(pL (pSm (pT3 pStr (pM (κ := Str) (pL pInt)) pStr) (pSm (pT4 pStr (pM (κ := Str) (pL pInt)) pStr (pT2 pStr (pSm pStr (pL (pSm pInt (pSm pStr (pL pInt))))))) (pT5 pStr (pM (κ := Str) (pL pInt)) pStr pInt pInt)))) a.1, pInt a.2] : List Pd)) (fun (a : (List ((Str × List (Str × List Int) × Str) ⊕ ((Str × List (Str × List Int) × Str × (Str × (Str ⊕ (List (Int ⊕ (Str ⊕ (List Int))))))) ⊕ (Str × List (Str × List Int) × Str × Int × Int)))) × Int) => M_used_marks a.1 a.2) (oL pBl) (erX mg rsL)) := by
  obtain ⟨fI_UnknownLine, tx_UnknownLine⟩ := (C.xs.x "UnknownLine" (by decide +kernel)).tx
  have m_len := C.m_len
  have m_range := C.m_range
  refine fn_Xo (A := (fun (a : (List ((Str × List (Str × List Int) × Str) ⊕ ((Str × List (Str × List Int) × Str × (Str × (Str ⊕ (List (Int ⊕ (Str ⊕ (List Int))))))) ⊕ (Str × List (Str × List Int) × Str × Int × Int)))) × Int) => ([(pL (pSm (pT3 pStr (pM (κ := Str) (pL pInt)) pStr) (pSm (pT4 pStr (pM (κ := Str) (pL pInt)) pStr (pT2 pStr (pSm pStr (pL (pSm pInt (pSm pStr (pL pInt))))))) (pT5 pStr (pM (κ := Str) (pL pInt)) pStr pInt pInt)))) a.1, pInt a.2] : List Pd))) (Mf := (fun (a : (List ((Str × List (Str × List Int) × Str) ⊕ ((Str × List (Str × List Int) × Str × (Str × (Str ⊕ (List (Int ⊕ (Str ⊕ (List Int))))))) ⊕ (Str × List (Str × List Int) × Str × Int × Int)))) × Int) => M_used_marks a.1 a.2)) FD sc_used_marks (fun _ => rfl) rfl fun cdv A outer s H E hr ⟨a1, a2⟩ tk => ?_
  exact s_is (s_T (T := if (!((decide ((1 : Int) ≤ a2)) && (decide (a2 ≤ (a1.length : Int))))) = true then some ((Except.error) (⟨"UnknownLine", [.int a2]⟩ : Er)) else grd (repOkL ([false]).length (a1.length : Int) = true) ((some ((repL ([false]) (a1.length : Int)) : List Bool)).bind fun x3 => (ixN x3.length (a2 - (1 : Int))).bind fun (_ : Nat) => grd (rg2 (-(1 : Int)) (a2 - (1 : Int)) = true) ((forS (rngD (a2 - (1 : Int)) ((a2 - (1 : Int)) - (-(1 : Int))).toNat) ((x3.set ((ixN x3.length (a2 - (1 : Int))).getD 0) true) : (List Bool)) fun x10 s9 => (atI a1 x10).bind fun x13 => (some (x13 : ((Str × List (Str × List Int) × Str) ⊕ ((Str × List (Str × List Int) × Str × (Str × (Str ⊕ (List (Int ⊕ (Str ⊕ (List Int))))))) ⊕ (Str × List (Str × List Int) × Str × Int × Int))))).bind fun x14 => (atI s9 x10).bind fun x16 => ((if x16 = true then ((Sum.elim (fun (x_ : (Str × List (Str × List Int) × Str)) => some x_.1) (Sum.elim (fun (x_ : (Str × List (Str × List Int) × Str × (Str × (Str ⊕ (List (Int ⊕ (Str ⊕ (List Int)))))))) => some x_.1) (fun (x_ : (Str × List (Str × List Int) × Str × Int × Int)) => some x_.1))) x14).bind fun u18 => some ((decide (u18 = ("join" : Str))), ()) else some (false, ()))).bind fun c19 => (if c19.1 = true then ((Sum.elim (fun (_ : (Str × List (Str × List Int) × Str)) => (none : Option Int)) (Sum.elim (fun (_ : (Str × List (Str × List Int) × Str × (Str × (Str ⊕ (List (Int ⊕ (Str ⊕ (List Int)))))))) => (none : Option Int)) (fun (x_ : (Str × List (Str × List Int) × Str × Int × Int)) => some x_.2.2.2.1))) x14).bind fun u22 => (ixN s9.length (u22 - (1 : Int))).bind fun (_ : Nat) => ((Sum.elim (fun (_ : (Str × List (Str × List Int) × Str)) => (none : Option Int)) (Sum.elim (fun (_ : (Str × List (Str × List Int) × Str × (Str × (Str ⊕ (List (Int ⊕ (Str ⊕ (List Int)))))))) => (none : Option Int)) (fun (x_ : (Str × List (Str × List Int) × Str × Int × Int)) => some x_.2.2.2.2))) x14).bind fun u24 => (ixN (s9.set ((ixN s9.length (u22 - (1 : Int))).getD 0) true).length (u24 - (1 : Int))).bind fun (_ : Nat) => some ((s9.set ((ixN s9.length (u22 - (1 : Int))).getD 0) true).set ((ixN (s9.set ((ixN s9.length (u22 - (1 : Int))).getD 0) true).length (u24 - (1 : Int))).getD 0) true) else some s9).bind fun s21 => some s21).bind fun s11 => some (Except.ok (ε := Er) s11)))) (s_ifT (ins_X (ins_F _)) (t_kd (c := fun (b_ : Unit) => (!((decide ((1 : Int) ≤ a2)) && (decide (a2 ≤ (a1.length : Int)))))) (t_not (t_kd (c := fun (b_ : Unit) => ((decide ((1 : Int) ≤ a2)) && (decide (a2 ≤ (a1.length : Int))))) (t_chainII (i := (1 : Int)) (j := a2) (l := (a1.length : Int)) (y_int (i := 1)) (y_var (p := pInt a2) 1) (x_kd (E := fun (b_ : Unit) => pInt (a1.length : Int)) (x_lenL (Ee := (pSm (pT3 pStr (pM (κ := Str) (pL pInt)) pStr) (pSm (pT4 pStr (pM (κ := Str) (pL pInt)) pStr (pT2 pStr (pSm pStr (pL (pSm pInt (pSm pStr (pL pInt))))))) (pT5 pStr (pM (κ := Str) (pL pInt)) pStr pInt pInt)))) m_len (y_var (p := (pL (pSm (pT3 pStr (pM (κ := Str) (pL pInt)) pStr) (pSm (pT4 pStr (pM (κ := Str) (pL pInt)) pStr (pT2 pStr (pSm pStr (pL (pSm pInt (pSm pStr (pL pInt))))))) (pT5 pStr (pM (κ := Str) (pL pInt)) pStr pInt pInt)))) a1) 0) (fun _ => rdF))))))) (fun (b1 : Unit) => s_T (T := some ((Except.error) (⟨"UnknownLine", [.int a2]⟩ : Er))) (s_raise (er := fun (b : (Unit × Unit)) => (⟨"UnknownLine", [.int a2]⟩ : Er)) tk ex_X tx_UnknownLine (C.xs.x "UnknownLine" (by decide +kernel)).g C.xs.sup hr (a_cons (x_var (p := pInt a2) 1) (fun _ => a_nil)) (fun _ _ _ _ h => ⟨(show ("UnknownLine" : Str) ∈ rsL from by decide +kernel), h⟩) (fun _ => (by decide +kernel : 1 = (fieldsOf "UnknownLine").length)) (by decide +kernel) (fun _ => (List.nil_sublist _)) (fun _ _ _ => trivial))) fun (b1 : Unit) => s_T (T := grd (repOkL ([false]).length (a1.length : Int) = true) ((some ((repL ([false]) (a1.length : Int)) : List Bool)).bind fun x3 => (ixN x3.length (a2 - (1 : Int))).bind fun (_ : Nat) => grd (rg2 (-(1 : Int)) (a2 - (1 : Int)) = true) ((forS (rngD (a2 - (1 : Int)) ((a2 - (1 : Int)) - (-(1 : Int))).toNat) ((x3.set ((ixN x3.length (a2 - (1 : Int))).getD 0) true) : (List Bool)) fun x10 s9 => (atI a1 x10).bind fun x13 => (some (x13 : ((Str × List (Str × List Int) × Str) ⊕ ((Str × List (Str × List Int) × Str × (Str × (Str ⊕ (List (Int ⊕ (Str ⊕ (List Int))))))) ⊕ (Str × List (Str × List Int) × Str × Int × Int))))).bind fun x14 => (atI s9 x10).bind fun x16 => ((if x16 = true then ((Sum.elim (fun (x_ : (Str × List (Str × List Int) × Str)) => some x_.1) (Sum.elim (fun (x_ : (Str × List (Str × List Int) × Str × (Str × (Str ⊕ (List (Int ⊕ (Str ⊕ (List Int)))))))) => some x_.1) (fun (x_ : (Str × List (Str × List Int) × Str × Int × Int)) => some x_.1))) x14).bind fun u18 => some ((decide (u18 = ("join" : Str))), ()) else some (false, ()))).bind fun c19 => (if c19.1 = true then ((Sum.elim (fun (_ : (Str × List (Str × List Int) × Str)) => (none : Option Int)) (Sum.elim (fun (_ : (Str × List (Str × List Int) × Str × (Str × (Str ⊕ (List (Int ⊕ (Str ⊕ (List Int)))))))) => (none : Option Int)) (fun (x_ : (Str × List (Str × List Int) × Str × Int × Int)) => some x_.2.2.2.1))) x14).bind fun u22 => (ixN s9.length (u22 - (1 : Int))).bind fun (_ : Nat) => ((Sum.elim (fun (_ : (Str × List (Str × List Int) × Str)) => (none : Option Int)) (Sum.elim (fun (_ : (Str × List (Str × List Int) × Str × (Str × (Str ⊕ (List (Int ⊕ (Str ⊕ (List Int)))))))) => (none : Option Int)) (fun (x_ : (Str × List (Str × List Int) × Str × Int × Int)) => some x_.2.2.2.2))) x14).bind fun u24 => (ixN (s9.set ((ixN s9.length (u22 - (1 : Int))).getD 0) true).length (u24 - (1 : Int))).bind fun (_ : Nat) => some ((s9.set ((ixN s9.length (u22 - (1 : Int))).getD 0) true).set ((ixN (s9.set ((ixN s9.length (u22 - (1 : Int))).getD 0) true).length (u24 - (1 : Int))).getD 0) true) else some s9).bind fun s21 => some s21).bind fun s11 => some (Except.ok (ε := Er) s11)))) (s_letO (i := 2) (oL pBl) sc_used_marks.nd (o_kd (E := fun (b_ : ((Unit × Unit) × Unit)) => (oL pBl) (repL ([false]) (a1.length : Int))) (x_repO (Ee := pBl) (o_kd (E := fun (b_ : (Unit × Unit)) => (oL pBl) ([false])) (x_disp pBl (fun _ => [_]) (a_cons x_bl (fun _ => a_nil)) (fun _ => rfl) (fun _ => by simp))) (fun _ vt_ => x_kd (E := fun (b_ : Unit) => pInt (a1.length : Int)) (x_lenL (Ee := (pSm (pT3 pStr (pM (κ := Str) (pL pInt)) pStr) (pSm (pT4 pStr (pM (κ := Str) (pL pInt)) pStr (pT2 pStr (pSm pStr (pL (pSm pInt (pSm pStr (pL pInt))))))) (pT5 pStr (pM (κ := Str) (pL pInt)) pStr pInt pInt)))) m_len (x_var (p := (pL (pSm (pT3 pStr (pM (κ := Str) (pL pInt)) pStr) (pSm (pT4 pStr (pM (κ := Str) (pL pInt)) pStr (pT2 pStr (pSm pStr (pL (pSm pInt (pSm pStr (pL pInt))))))) (pT5 pStr (pM (κ := Str) (pL pInt)) pStr pInt pInt)))) a1) 0) (fun _ => rdF))))) fun (b4 : ((Unit × Unit) × Unit)) x3 v6 => s_T (T := (ixN x3.length (a2 - (1 : Int))).bind fun (_ : Nat) => grd (rg2 (-(1 : Int)) (a2 - (1 : Int)) = true) ((forS (rngD (a2 - (1 : Int)) ((a2 - (1 : Int)) - (-(1 : Int))).toNat) ((x3.set ((ixN x3.length (a2 - (1 : Int))).getD 0) true) : (List Bool)) fun x10 s9 => (atI a1 x10).bind fun x13 => (some (x13 : ((Str × List (Str × List Int) × Str) ⊕ ((Str × List (Str × List Int) × Str × (Str × (Str ⊕ (List (Int ⊕ (Str ⊕ (List Int))))))) ⊕ (Str × List (Str × List Int) × Str × Int × Int))))).bind fun x14 => (atI s9 x10).bind fun x16 => ((if x16 = true then ((Sum.elim (fun (x_ : (Str × List (Str × List Int) × Str)) => some x_.1) (Sum.elim (fun (x_ : (Str × List (Str × List Int) × Str × (Str × (Str ⊕ (List (Int ⊕ (Str ⊕ (List Int)))))))) => some x_.1) (fun (x_ : (Str × List (Str × List Int) × Str × Int × Int)) => some x_.1))) x14).bind fun u18 => some ((decide (u18 = ("join" : Str))), ()) else some (false, ()))).bind fun c19 => (if c19.1 = true then ((Sum.elim (fun (_ : (Str × List (Str × List Int) × Str)) => (none : Option Int)) (Sum.elim (fun (_ : (Str × List (Str × List Int) × Str × (Str × (Str ⊕ (List (Int ⊕ (Str ⊕ (List Int)))))))) => (none : Option Int)) (fun (x_ : (Str × List (Str × List Int) × Str × Int × Int)) => some x_.2.2.2.1))) x14).bind fun u22 => (ixN s9.length (u22 - (1 : Int))).bind fun (_ : Nat) => ((Sum.elim (fun (_ : (Str × List (Str × List Int) × Str)) => (none : Option Int)) (Sum.elim (fun (_ : (Str × List (Str × List Int) × Str × (Str × (Str ⊕ (List (Int ⊕ (Str ⊕ (List Int)))))))) => (none : Option Int)) (fun (x_ : (Str × List (Str × List Int) × Str × Int × Int)) => some x_.2.2.2.2))) x14).bind fun u24 => (ixN (s9.set ((ixN s9.length (u22 - (1 : Int))).getD 0) true).length (u24 - (1 : Int))).bind fun (_ : Nat) => some ((s9.set ((ixN s9.length (u22 - (1 : Int))).getD 0) true).set ((ixN (s9.set ((ixN s9.length (u22 - (1 : Int))).getD 0) true).length (u24 - (1 : Int))).getD 0) true) else some s9).bind fun s21 => some s21).bind fun s11 => some (Except.ok (ε := Er) s11))) (s_setL 0 x_bl (fun _ => x_var (p := pV v6) 2) (fun _ _ => x_kd (E := fun (b_ : (Unit × Unit)) => pInt (a2 - (1 : Int))) (x_sub (x_var (p := pInt a2) 1) (fun _ => x_int (i := 1)))) (fun _ _ _ => rfl) fun (b7 : ((Unit × Unit) × (Unit × Unit))) => s_T (T := grd (rg2 (-(1 : Int)) (a2 - (1 : Int)) = true) ((forS (rngD (a2 - (1 : Int)) ((a2 - (1 : Int)) - (-(1 : Int))).toNat) ((x3.set ((ixN x3.length (a2 - (1 : Int))).getD 0) true) : (List Bool)) fun x10 s9 => (atI a1 x10).bind fun x13 => (some (x13 : ((Str × List (Str × List Int) × Str) ⊕ ((Str × List (Str × List Int) × Str × (Str × (Str ⊕ (List (Int ⊕ (Str ⊕ (List Int))))))) ⊕ (Str × List (Str × List Int) × Str × Int × Int))))).bind fun x14 => (atI s9 x10).bind fun x16 => ((if x16 = true then ((Sum.elim (fun (x_ : (Str × List (Str × List Int) × Str)) => some x_.1) (Sum.elim (fun (x_ : (Str × List (Str × List Int) × Str × (Str × (Str ⊕ (List (Int ⊕ (Str ⊕ (List Int)))))))) => some x_.1) (fun (x_ : (Str × List (Str × List Int) × Str × Int × Int)) => some x_.1))) x14).bind fun u18 => some ((decide (u18 = ("join" : Str))), ()) else some (false, ()))).bind fun c19 => (if c19.1 = true then ((Sum.elim (fun (_ : (Str × List (Str × List Int) × Str)) => (none : Option Int)) (Sum.elim (fun (_ : (Str × List (Str × List Int) × Str × (Str × (Str ⊕ (List (Int ⊕ (Str ⊕ (List Int)))))))) => (none : Option Int)) (fun (x_ : (Str × List (Str × List Int) × Str × Int × Int)) => some x_.2.2.2.1))) x14).bind fun u22 => (ixN s9.length (u22 - (1 : Int))).bind fun (_ : Nat) => ((Sum.elim (fun (_ : (Str × List (Str × List Int) × Str)) => (none : Option Int)) (Sum.elim (fun (_ : (Str × List (Str × List Int) × Str × (Str × (Str ⊕ (List (Int ⊕ (Str ⊕ (List Int)))))))) => (none : Option Int)) (fun (x_ : (Str × List (Str × List Int) × Str × Int × Int)) => some x_.2.2.2.2))) x14).bind fun u24 => (ixN (s9.set ((ixN s9.length (u22 - (1 : Int))).getD 0) true).length (u24 - (1 : Int))).bind fun (_ : Nat) => some ((s9.set ((ixN s9.length (u22 - (1 : Int))).getD 0) true).set ((ixN (s9.set ((ixN s9.length (u22 - (1 : Int))).getD 0) true).length (u24 - (1 : Int))).getD 0) true) else some s9).bind fun s21 => some s21).bind fun s11 => some (Except.ok (ε := Er) s11))) (s_forS (passes_of rfl) (fun (b_ : ((Unit × Unit) × Unit)) (s_ : (List Bool)) => ([some ((pL (pSm (pT3 pStr (pM (κ := Str) (pL pInt)) pStr) (pSm (pT4 pStr (pM (κ := Str) (pL pInt)) pStr (pT2 pStr (pSm pStr (pL (pSm pInt (pSm pStr (pL pInt))))))) (pT5 pStr (pM (κ := Str) (pL pInt)) pStr pInt pInt)))) a1), some (pInt a2), some (pV v6), none, none], [⟨v6, (oL pBl) s_, none⟩])) (fun (b_ : ((Unit × Unit) × Unit)) => (x3.set ((ixN x3.length (a2 - (1 : Int))).getD 0) true)) (i_rngD m_range (x_kd (E := fun (b_ : (Unit × Unit)) => pInt (a2 - (1 : Int))) (x_sub (x_var (p := pInt a2) 1) (fun _ => x_int (i := 1)))) (fun _ => x_kd (E := fun (b_ : Unit) => pInt (-(1 : Int))) (x_neg (x_int (i := 1)))) pe_m1) (pg_name (i := 3) sc_used_marks.nd rfl (by first | exact .inl rfl | exact .inr rfl)) (tg_name 3) (fun _ => ⟨rfl, rfl, rfl, trivial⟩) (fun _ => List.Sublist.refl _) (fun b8 x10 s9 => s_T (T := (atI a1 x10).bind fun x13 => (some (x13 : ((Str × List (Str × List Int) × Str) ⊕ ((Str × List (Str × List Int) × Str × (Str × (Str ⊕ (List (Int ⊕ (Str ⊕ (List Int))))))) ⊕ (Str × List (Str × List Int) × Str × Int × Int))))).bind fun x14 => (atI s9 x10).bind fun x16 => ((if x16 = true then ((Sum.elim (fun (x_ : (Str × List (Str × List Int) × Str)) => some x_.1) (Sum.elim (fun (x_ : (Str × List (Str × List Int) × Str × (Str × (Str ⊕ (List (Int ⊕ (Str ⊕ (List Int)))))))) => some x_.1) (fun (x_ : (Str × List (Str × List Int) × Str × Int × Int)) => some x_.1))) x14).bind fun u18 => some ((decide (u18 = ("join" : Str))), ()) else some (false, ()))).bind fun c19 => (if c19.1 = true then ((Sum.elim (fun (_ : (Str × List (Str × List Int) × Str)) => (none : Option Int)) (Sum.elim (fun (_ : (Str × List (Str × List Int) × Str × (Str × (Str ⊕ (List (Int ⊕ (Str ⊕ (List Int)))))))) => (none : Option Int)) (fun (x_ : (Str × List (Str × List Int) × Str × Int × Int)) => some x_.2.2.2.1))) x14).bind fun u22 => (ixN s9.length (u22 - (1 : Int))).bind fun (_ : Nat) => ((Sum.elim (fun (_ : (Str × List (Str × List Int) × Str)) => (none : Option Int)) (Sum.elim (fun (_ : (Str × List (Str × List Int) × Str × (Str × (Str ⊕ (List (Int ⊕ (Str ⊕ (List Int)))))))) => (none : Option Int)) (fun (x_ : (Str × List (Str × List Int) × Str × Int × Int)) => some x_.2.2.2.2))) x14).bind fun u24 => (ixN (s9.set ((ixN s9.length (u22 - (1 : Int))).getD 0) true).length (u24 - (1 : Int))).bind fun (_ : Nat) => some ((s9.set ((ixN s9.length (u22 - (1 : Int))).getD 0) true).set ((ixN (s9.set ((ixN s9.length (u22 - (1 : Int))).getD 0) true).length (u24 - (1 : Int))).getD 0) true) else some s9).bind fun s21 => some s21) (s_let (i := 4) (pSm (pT3 pStr (pM (κ := Str) (pL pInt)) pStr) (pSm (pT4 pStr (pM (κ := Str) (pL pInt)) pStr (pT2 pStr (pSm pStr (pL (pSm pInt (pSm pStr (pL pInt))))))) (pT5 pStr (pM (κ := Str) (pL pInt)) pStr pInt pInt))) sc_used_marks.nd (x_kd (E := fun (b_ : ((Unit × Unit) × ((Str × List (Str × List Int) × Str) ⊕ ((Str × List (Str × List Int) × Str × (Str × (Str ⊕ (List (Int ⊕ (Str ⊕ (List Int))))))) ⊕ (Str × List (Str × List Int) × Str × Int × Int))))) => (pSm (pT3 pStr (pM (κ := Str) (pL pInt)) pStr) (pSm (pT4 pStr (pM (κ := Str) (pL pInt)) pStr (pT2 pStr (pSm pStr (pL (pSm pInt (pSm pStr (pL pInt))))))) (pT5 pStr (pM (κ := Str) (pL pInt)) pStr pInt pInt))) b_.2) (x_ixL (Ee := (pSm (pT3 pStr (pM (κ := Str) (pL pInt)) pStr) (pSm (pT4 pStr (pM (κ := Str) (pL pInt)) pStr (pT2 pStr (pSm pStr (pL (pSm pInt (pSm pStr (pL pInt))))))) (pT5 pStr (pM (κ := Str) (pL pInt)) pStr pInt pInt)))) (x_var (p := (pL (pSm (pT3 pStr (pM (κ := Str) (pL pInt)) pStr) (pSm (pT4 pStr (pM (κ := Str) (pL pInt)) pStr (pT2 pStr (pSm pStr (pL (pSm pInt (pSm pStr (pL pInt))))))) (pT5 pStr (pM (κ := Str) (pL pInt)) pStr pInt pInt)))) a1) 0) (fun _ => x_var (p := pInt x10) 3) (fun _ _ => rdF))) fun (b15 : ((Unit × Unit) × ((Str × List (Str × List Int) × Str) ⊕ ((Str × List (Str × List Int) × Str × (Str × (Str ⊕ (List (Int ⊕ (Str ⊕ (List Int))))))) ⊕ (Str × List (Str × List Int) × Str × Int × Int))))) x14 => s_T (T := (atI s9 x10).bind fun x16 => ((if x16 = true then ((Sum.elim (fun (x_ : (Str × List (Str × List Int) × Str)) => some x_.1) (Sum.elim (fun (x_ : (Str × List (Str × List Int) × Str × (Str × (Str ⊕ (List (Int ⊕ (Str ⊕ (List Int)))))))) => some x_.1) (fun (x_ : (Str × List (Str × List Int) × Str × Int × Int)) => some x_.1))) x14).bind fun u18 => some ((decide (u18 = ("join" : Str))), ()) else some (false, ()))).bind fun c19 => (if c19.1 = true then ((Sum.elim (fun (_ : (Str × List (Str × List Int) × Str)) => (none : Option Int)) (Sum.elim (fun (_ : (Str × List (Str × List Int) × Str × (Str × (Str ⊕ (List (Int ⊕ (Str ⊕ (List Int)))))))) => (none : Option Int)) (fun (x_ : (Str × List (Str × List Int) × Str × Int × Int)) => some x_.2.2.2.1))) x14).bind fun u22 => (ixN s9.length (u22 - (1 : Int))).bind fun (_ : Nat) => ((Sum.elim (fun (_ : (Str × List (Str × List Int) × Str)) => (none : Option Int)) (Sum.elim (fun (_ : (Str × List (Str × List Int) × Str × (Str × (Str ⊕ (List (Int ⊕ (Str ⊕ (List Int)))))))) => (none : Option Int)) (fun (x_ : (Str × List (Str × List Int) × Str × Int × Int)) => some x_.2.2.2.2))) x14).bind fun u24 => (ixN (s9.set ((ixN s9.length (u22 - (1 : Int))).getD 0) true).length (u24 - (1 : Int))).bind fun (_ : Nat) => some ((s9.set ((ixN s9.length (u22 - (1 : Int))).getD 0) true).set ((ixN (s9.set ((ixN s9.length (u22 - (1 : Int))).getD 0) true).length (u24 - (1 : Int))).getD 0) true) else some s9).bind fun s21 => some s21) (s_ifN (C := fun s_ : (List Bool) => ([some ((pL (pSm (pT3 pStr (pM (κ := Str) (pL pInt)) pStr) (pSm (pT4 pStr (pM (κ := Str) (pL pInt)) pStr (pT2 pStr (pSm pStr (pL (pSm pInt (pSm pStr (pL pInt))))))) (pT5 pStr (pM (κ := Str) (pL pInt)) pStr pInt pInt)))) a1), some (pInt a2), some (pV v6), some (pInt x10), some ((pSm (pT3 pStr (pM (κ := Str) (pL pInt)) pStr) (pSm (pT4 pStr (pM (κ := Str) (pL pInt)) pStr (pT2 pStr (pSm pStr (pL (pSm pInt (pSm pStr (pL pInt))))))) (pT5 pStr (pM (κ := Str) (pL pInt)) pStr pInt pInt))) x14)], [⟨v6, (oL pBl) s_, none⟩])) (t_kd (c := fun (b_ : (((Unit × Unit) × Bool) × (Bool × Unit))) => b_.2.1) (PW.pt (w_andM (ΔS := fun (b_ : ((Unit × Unit) × Bool)) (s_ : Unit) => [⟨v6, (oL pBl) s9, none⟩]) (s1 := fun (b_ : ((Unit × Unit) × Bool)) => ()) (s2 := fun (b_ : ((Unit × Unit) × Bool)) (c_ : ((Unit × Str) × Unit)) => ()) (t_kd (c := fun (b_ : ((Unit × Unit) × Bool)) => b_.2) (t_val (x_kd (E := fun (b_ : ((Unit × Unit) × Bool)) => pBl b_.2) (x_ixL (Ee := pBl) (x_var (p := pV v6) 2) (fun _ => x_var (p := pInt x10) 3) (fun _ _ => rdO 0))))) (fun _ => w_and1 (t_kd (c := fun (b_ : ((Unit × Str) × Unit)) => (decide (b_.1.2 = ("join" : Str)))) (t_eqS (x_kd (E := fun (b_ : (Unit × Str)) => pStr b_.2) (x_ixP (P := (pSm (pT3 pStr (pM (κ := Str) (pL pInt)) pStr) (pSm (pT4 pStr (pM (κ := Str) (pL pInt)) pStr (pT2 pStr (pSm pStr (pL (pSm pInt (pSm pStr (pL pInt))))))) (pT5 pStr (pM (κ := Str) (pL pInt)) pStr pInt pInt)))) (E := pStr) 0 (g := (Sum.elim (fun (x_ : (Str × List (Str × List Int) × Str)) => some x_.1) (Sum.elim (fun (x_ : (Str × List (Str × List Int) × Str × (Str × (Str ⊕ (List (Int ⊕ (Str ⊕ (List Int)))))))) => some x_.1) (fun (x_ : (Str × List (Str × List Int) × Str × Int × Int)) => some x_.1)))) (ix_sm ix_t30 (ix_sm ix_t40 ix_t50)) (x_var (p := (pSm (pT3 pStr (pM (κ := Str) (pL pInt)) pStr) (pSm (pT4 pStr (pM (κ := Str) (pL pInt)) pStr (pT2 pStr (pSm pStr (pL (pSm pInt (pSm pStr (pL pInt))))))) (pT5 pStr (pM (κ := Str) (pL pInt)) pStr pInt pInt))) x14) 4))) (fun _ => x_str)))) (fun _ => rfl) (fun _ _ => rfl)))) (fun (b20 : (((Unit × Unit) × Bool) × (Bool × Unit))) => s_T (T := ((Sum.elim (fun (_ : (Str × List (Str × List Int) × Str)) => (none : Option Int)) (Sum.elim (fun (_ : (Str × List (Str × List Int) × Str × (Str × (Str ⊕ (List (Int ⊕ (Str ⊕ (List Int)))))))) => (none : Option Int)) (fun (x_ : (Str × List (Str × List Int) × Str × Int × Int)) => some x_.2.2.2.1))) x14).bind fun u22 => (ixN s9.length (u22 - (1 : Int))).bind fun (_ : Nat) => ((Sum.elim (fun (_ : (Str × List (Str × List Int) × Str)) => (none : Option Int)) (Sum.elim (fun (_ : (Str × List (Str × List Int) × Str × (Str × (Str ⊕ (List (Int ⊕ (Str ⊕ (List Int)))))))) => (none : Option Int)) (fun (x_ : (Str × List (Str × List Int) × Str × Int × Int)) => some x_.2.2.2.2))) x14).bind fun u24 => (ixN (s9.set ((ixN s9.length (u22 - (1 : Int))).getD 0) true).length (u24 - (1 : Int))).bind fun (_ : Nat) => some ((s9.set ((ixN s9.length (u22 - (1 : Int))).getD 0) true).set ((ixN (s9.set ((ixN s9.length (u22 - (1 : Int))).getD 0) true).length (u24 - (1 : Int))).getD 0) true)) (s_setL 0 x_bl (fun _ => x_var (p := pV v6) 2) (fun _ _ => x_kd (E := fun (b_ : ((Unit × Int) × Unit)) => pInt (b_.1.2 - (1 : Int))) (x_sub (x_kd (E := fun (b_ : (Unit × Int)) => pInt b_.2) (x_ixP (P := (pSm (pT3 pStr (pM (κ := Str) (pL pInt)) pStr) (pSm (pT4 pStr (pM (κ := Str) (pL pInt)) pStr (pT2 pStr (pSm pStr (pL (pSm pInt (pSm pStr (pL pInt))))))) (pT5 pStr (pM (κ := Str) (pL pInt)) pStr pInt pInt)))) (E := pInt) 3 (g := (Sum.elim (fun (_ : (Str × List (Str × List Int) × Str)) => (none : Option Int)) (Sum.elim (fun (_ : (Str × List (Str × List Int) × Str × (Str × (Str ⊕ (List (Int ⊕ (Str ⊕ (List Int)))))))) => (none : Option Int)) (fun (x_ : (Str × List (Str × List Int) × Str × Int × Int)) => some x_.2.2.2.1)))) (ix_sm ix_no (ix_sm ix_no ix_t53)) (x_var (p := (pSm (pT3 pStr (pM (κ := Str) (pL pInt)) pStr) (pSm (pT4 pStr (pM (κ := Str) (pL pInt)) pStr (pT2 pStr (pSm pStr (pL (pSm pInt (pSm pStr (pL pInt))))))) (pT5 pStr (pM (κ := Str) (pL pInt)) pStr pInt pInt))) x14) 4))) (fun _ => x_int (i := 1)))) (fun _ _ _ => rfl) fun (b23 : ((Unit × Unit) × ((Unit × Int) × Unit))) => s_T (T := ((Sum.elim (fun (_ : (Str × List (Str × List Int) × Str)) => (none : Option Int)) (Sum.elim (fun (_ : (Str × List (Str × List Int) × Str × (Str × (Str ⊕ (List (Int ⊕ (Str ⊕ (List Int)))))))) => (none : Option Int)) (fun (x_ : (Str × List (Str × List Int) × Str × Int × Int)) => some x_.2.2.2.2))) x14).bind fun u24 => (ixN (s9.set ((ixN s9.length (b23.2.1.2 - (1 : Int))).getD 0) true).length (u24 - (1 : Int))).bind fun (_ : Nat) => some ((s9.set ((ixN s9.length (b23.2.1.2 - (1 : Int))).getD 0) true).set ((ixN (s9.set ((ixN s9.length (b23.2.1.2 - (1 : Int))).getD 0) true).length (u24 - (1 : Int))).getD 0) true)) (s_setL 0 x_bl (fun _ => x_var (p := pV v6) 2) (fun _ _ => x_kd (E := fun (b_ : ((Unit × Int) × Unit)) => pInt (b_.1.2 - (1 : Int))) (x_sub (x_kd (E := fun (b_ : (Unit × Int)) => pInt b_.2) (x_ixP (P := (pSm (pT3 pStr (pM (κ := Str) (pL pInt)) pStr) (pSm (pT4 pStr (pM (κ := Str) (pL pInt)) pStr (pT2 pStr (pSm pStr (pL (pSm pInt (pSm pStr (pL pInt))))))) (pT5 pStr (pM (κ := Str) (pL pInt)) pStr pInt pInt)))) (E := pInt) 4 (g := (Sum.elim (fun (_ : (Str × List (Str × List Int) × Str)) => (none : Option Int)) (Sum.elim (fun (_ : (Str × List (Str × List Int) × Str × (Str × (Str ⊕ (List (Int ⊕ (Str ⊕ (List Int)))))))) => (none : Option Int)) (fun (x_ : (Str × List (Str × List Int) × Str × Int × Int)) => some x_.2.2.2.2)))) (ix_sm ix_no (ix_sm ix_no ix_t54)) (x_var (p := (pSm (pT3 pStr (pM (κ := Str) (pL pInt)) pStr) (pSm (pT4 pStr (pM (κ := Str) (pL pInt)) pStr (pT2 pStr (pSm pStr (pL (pSm pInt (pSm pStr (pL pInt))))))) (pT5 pStr (pM (κ := Str) (pL pInt)) pStr pInt pInt))) x14) 4))) (fun _ => x_int (i := 1)))) (fun _ _ _ => rfl) fun (b25 : ((Unit × Unit) × ((Unit × Int) × Unit))) => s_end ((s9.set ((ixN s9.length (b23.2.1.2 - (1 : Int))).getD 0) true).set ((ixN (s9.set ((ixN s9.length (b23.2.1.2 - (1 : Int))).getD 0) true).length (b25.2.1.2 - (1 : Int))).getD 0) true) rfl ⟨rfl, rfl, rfl, rfl, rfl, trivial⟩ (List.Sublist.refl _)))) (fun (b20 : (((Unit × Unit) × Bool) × (Bool × Unit))) => s_end s9 rfl ⟨rfl, rfl, rfl, rfl, rfl, trivial⟩ (List.Sublist.refl _)) fun (b20 : (((Unit × Unit) × Bool) × (Bool × Unit))) s21 => s_end s21 rfl ⟨rfl, rfl, rfl, trivial⟩ (List.Sublist.refl _)))) fun b8 s11 => s_T (T := some (Except.ok (ε := Er) s11)) (s_retV 0 (P := (fun _ => [])) (Ro := (oL pBl)) (ι := (Except.ok (ε := Er))) (rv := fun _ => s11) (fun _ _ _ h => h) (x_var (p := pV v6) 2) (fun _ => rfl) (fun _ => List.Sublist.refl _))))))) (by unfold M_used_marks; rfl)
end
end My
end
section
set_option maxHeartbeats 4000000
set_option synthInstance.maxSize 2000
namespace My
open PySem PySem.Spec PyProof.Rows L2 L3
section
variable {P : Program} {w : World} {K : PySem.W.Frag} {mg : Str → Option Value} {base : Heap}
theorem sc_rests_on : FnScope ["lines", "number", "marks", "keys", "line", "mark"] ["lines", "number"] (defScope (top 7)) := ⟨rfl, rfl, rfl, by decide +kernel, rfl, by decide +kernel, by decide +kernel⟩
theorem ok_rests_on {f : Addr} {fd : FuncData} (C : Ev P K mg) (FD : FnP K "rests_on" (top 7) f fd)   : FnOk P w K mg base (L2.CX P w) 2 f fd ["lines", "number"] (SpXo (fun (a : (List ((Str × List (Str × List Int) × Str) ⊕ ((Str × List (Str × List Int) × Str × (Str × (Str ⊕ (List (Int ⊕ (Str ⊕ (List Int))))))) ⊕ (Str × List (Str × List Int) × Str × Int × Int)))) × Int) => ([(pL (pSm (pT3 pStr (pM (κ := Str) (pL pInt)) pStr) (pSm (pT4 pStr (pM (κ := Str) (pL pInt)) pStr (pT2 pStr (pSm pStr (pL (pSm pInt (pSm pStr (pL pInt))))))) (pT5 pStr (pM (κ := Str) (pL pInt)) pStr pInt pInt)))) a.1, pInt a.2] : List Pd)) (fun (a : (List ((Str × List (Str × List Int) × Str) ⊕ ((Str × List (Str × List Int) × Str × (Str × (Str ⊕ (List (Int ⊕ (Str ⊕ (List Int))))))) ⊕ (Str × List (Str × List Int) × Str × Int × Int)))) × Int) => M_rests_on a.1 a.2) (oL pStr) (erX mg rsL)) := by
  have m_sorted := C.m_sorted
  have m_zip := C.m_zip
  obtain ⟨f_used_marks, fd_used_marks, F_used_marks, g_used_marks⟩ := C.f_used_marks
  have k_used_marks := ok_used_marks (P := P) (w := w) (base := base) C F_used_marks
  have b_used_marks : Binds K fd_used_marks ["lines", "number"] [] := F_used_marks.bindsN fun _ _ _ _ _ _ us hl => match us, hl with | [_, _], _ => rfl
  refine fn_Xo (A := (fun (a : (List ((Str × List (Str × List Int) × Str) ⊕ ((Str × List (Str × List Int) × Str × (Str × (Str ⊕ (List (Int ⊕ (Str ⊕ (List Int))))))) ⊕ (Str × List (Str × List Int) × Str × Int × Int)))) × Int) => ([(pL (pSm (pT3 pStr (pM (κ := Str) (pL pInt)) pStr) (pSm (pT4 pStr (pM (κ := Str) (pL pInt)) pStr (pT2 pStr (pSm pStr (pL (pSm pInt (pSm pStr (pL pInt))))))) (pT5 pStr (pM (κ := Str) (pL pInt)) pStr pInt pInt)))) a.1, pInt a.2] : List Pd))) (Mf := (fun (a : (List ((Str × List (Str × List Int) × Str) ⊕ ((Str × List (Str × List Int) × Str × (Str × (Str ⊕ (List (Int ⊕ (Str ⊕ (List Int))))))) ⊕ (Str × List (Str × List Int) × Str × Int × Int)))) × Int) => M_rests_on a.1 a.2)) FD sc_rests_on (fun _ => rfl) rfl fun cdv A outer s H E hr ⟨a1, a2⟩ tk => ?_
  exact s_is (s_T (T := (M_used_marks a1 a2).bind (xK (Except.error) fun r26 => (some (r26 : List Bool)).bind fun x27 => (some ([] : List Str)).bind fun x30 => (forS (List.zip a1 x27) (x30 : (List Str)) fun x36 s35 => ((if x36.2 = true then ((Sum.elim (fun (x_ : (Str × List (Str × List Int) × Str)) => some x_.1) (Sum.elim (fun (x_ : (Str × List (Str × List Int) × Str × (Str × (Str ⊕ (List (Int ⊕ (Str ⊕ (List Int)))))))) => some x_.1) (fun (x_ : (Str × List (Str × List Int) × Str × Int × Int)) => some x_.1))) (x36.1)).bind fun u40 => ((if (decide (u40 = ("rule" : Str))) = true then ((Sum.elim (fun (x_ : (Str × List (Str × List Int) × Str)) => some x_.2.2) (Sum.elim (fun (x_ : (Str × List (Str × List Int) × Str × (Str × (Str ⊕ (List (Int ⊕ (Str ⊕ (List Int)))))))) => some x_.2.2.1) (fun (x_ : (Str × List (Str × List Int) × Str × Int × Int)) => some x_.2.2.1))) (x36.1)).bind fun u42 => some ((!decide (u42 ∈ s35)), ()) else some (false, ()))).bind fun c43 => some (c43.1, ()) else some (false, ()))).bind fun c44 => (if c44.1 = true then ((Sum.elim (fun (_ : (Str × List (Str × List Int) × Str)) => (none : Option Str)) (Sum.elim (fun (x_ : (Str × List (Str × List Int) × Str × (Str × (Str ⊕ (List (Int ⊕ (Str ⊕ (List Int)))))))) => some x_.2.2.1) (fun (_ : (Str × List (Str × List Int) × Str × Int × Int)) => (none : Option Str)))) (x36.1)).bind fun u47 => grd (s35.length < sizeLine) (some (s35 ++ [u47])) else some s35).bind fun s46 => some s46).bind fun s37 => grd (s37.length < 64) (some (Except.ok (ε := Er) (srtS s37))))) (s_letOX (i := 2) (oL pBl) sc_rests_on.nd (x_Xo (kk := 1) (xs := fun (b : (Unit × (Unit × Unit))) => (a1, a2)) k_used_marks tk (hr.mono (by decide)) g_used_marks F_used_marks.kp b_used_marks (a_cons (x_var (p := (pL (pSm (pT3 pStr (pM (κ := Str) (pL pInt)) pStr) (pSm (pT4 pStr (pM (κ := Str) (pL pInt)) pStr (pT2 pStr (pSm pStr (pL (pSm pInt (pSm pStr (pL pInt))))))) (pT5 pStr (pM (κ := Str) (pL pInt)) pStr pInt pInt)))) a1) 0) (fun _ => a_cons (x_var (p := pInt a2) 1) (fun _ => a_nil)))) ex_X (List.nil_sublist _) (fun _ _ _ => trivial) fun (b28 : ((Unit × (Unit × Unit)) × (List Bool))) x27 v29 => s_frz (i := 2) (c := ⟨v29, (oL pBl) x27, none⟩) 0 (s_T (T := (some ([] : List Str)).bind fun x30 => (forS (List.zip a1 x27) (x30 : (List Str)) fun x36 s35 => ((if x36.2 = true then ((Sum.elim (fun (x_ : (Str × List (Str × List Int) × Str)) => some x_.1) (Sum.elim (fun (x_ : (Str × List (Str × List Int) × Str × (Str × (Str ⊕ (List (Int ⊕ (Str ⊕ (List Int)))))))) => some x_.1) (fun (x_ : (Str × List (Str × List Int) × Str × Int × Int)) => some x_.1))) (x36.1)).bind fun u40 => ((if (decide (u40 = ("rule" : Str))) = true then ((Sum.elim (fun (x_ : (Str × List (Str × List Int) × Str)) => some x_.2.2) (Sum.elim (fun (x_ : (Str × List (Str × List Int) × Str × (Str × (Str ⊕ (List (Int ⊕ (Str ⊕ (List Int)))))))) => some x_.2.2.1) (fun (x_ : (Str × List (Str × List Int) × Str × Int × Int)) => some x_.2.2.1))) (x36.1)).bind fun u42 => some ((!decide (u42 ∈ s35)), ()) else some (false, ()))).bind fun c43 => some (c43.1, ()) else some (false, ()))).bind fun c44 => (if c44.1 = true then ((Sum.elim (fun (_ : (Str × List (Str × List Int) × Str)) => (none : Option Str)) (Sum.elim (fun (x_ : (Str × List (Str × List Int) × Str × (Str × (Str ⊕ (List (Int ⊕ (Str ⊕ (List Int)))))))) => some x_.2.2.1) (fun (_ : (Str × List (Str × List Int) × Str × Int × Int)) => (none : Option Str)))) (x36.1)).bind fun u47 => grd (s35.length < sizeLine) (some (s35 ++ [u47])) else some s35).bind fun s46 => some s46).bind fun s37 => grd (s37.length < 64) (some (Except.ok (ε := Er) (srtS s37)))) (s_letO (i := 3) (oL pStr) sc_rests_on.nd (o_kd (E := fun (b_ : Unit) => (oL pStr) ([])) (x_nil pStr)) fun (b31 : Unit) x30 v33 => s_T (T := (forS (List.zip a1 x27) (x30 : (List Str)) fun x36 s35 => ((if x36.2 = true then ((Sum.elim (fun (x_ : (Str × List (Str × List Int) × Str)) => some x_.1) (Sum.elim (fun (x_ : (Str × List (Str × List Int) × Str × (Str × (Str ⊕ (List (Int ⊕ (Str ⊕ (List Int)))))))) => some x_.1) (fun (x_ : (Str × List (Str × List Int) × Str × Int × Int)) => some x_.1))) (x36.1)).bind fun u40 => ((if (decide (u40 = ("rule" : Str))) = true then ((Sum.elim (fun (x_ : (Str × List (Str × List Int) × Str)) => some x_.2.2) (Sum.elim (fun (x_ : (Str × List (Str × List Int) × Str × (Str × (Str ⊕ (List (Int ⊕ (Str ⊕ (List Int)))))))) => some x_.2.2.1) (fun (x_ : (Str × List (Str × List Int) × Str × Int × Int)) => some x_.2.2.1))) (x36.1)).bind fun u42 => some ((!decide (u42 ∈ s35)), ()) else some (false, ()))).bind fun c43 => some (c43.1, ()) else some (false, ()))).bind fun c44 => (if c44.1 = true then ((Sum.elim (fun (_ : (Str × List (Str × List Int) × Str)) => (none : Option Str)) (Sum.elim (fun (x_ : (Str × List (Str × List Int) × Str × (Str × (Str ⊕ (List (Int ⊕ (Str ⊕ (List Int)))))))) => some x_.2.2.1) (fun (_ : (Str × List (Str × List Int) × Str × Int × Int)) => (none : Option Str)))) (x36.1)).bind fun u47 => grd (s35.length < sizeLine) (some (s35 ++ [u47])) else some s35).bind fun s46 => some s46).bind fun s37 => grd (s37.length < 64) (some (Except.ok (ε := Er) (srtS s37)))) (s_forS (passes_of rfl) (fun (b_ : (Unit × Unit)) (s_ : (List Str)) => ([some ((pL (pSm (pT3 pStr (pM (κ := Str) (pL pInt)) pStr) (pSm (pT4 pStr (pM (κ := Str) (pL pInt)) pStr (pT2 pStr (pSm pStr (pL (pSm pInt (pSm pStr (pL pInt))))))) (pT5 pStr (pM (κ := Str) (pL pInt)) pStr pInt pInt)))) a1), some (pInt a2), some ((pL pBl) x27), some (pV v33), none, none], [⟨v33, (oL pStr) s_, none⟩])) (fun (b_ : (Unit × Unit)) => x30) (i_zipLL m_zip (x_var (p := (pL (pSm (pT3 pStr (pM (κ := Str) (pL pInt)) pStr) (pSm (pT4 pStr (pM (κ := Str) (pL pInt)) pStr (pT2 pStr (pSm pStr (pL (pSm pInt (pSm pStr (pL pInt))))))) (pT5 pStr (pM (κ := Str) (pL pInt)) pStr pInt pInt)))) a1) 0) (fun _ => x_var (p := (pL pBl) x27) 2)) (pg_tup rfl (pgs_cons (pg_name (i := 4) sc_rests_on.nd rfl (by first | exact .inl rfl | exact .inr rfl)) (pgs_cons (pg_name (i := 5) sc_rests_on.nd rfl (by first | exact .inl rfl | exact .inr rfl)) pgs_nil))) (tg_pair 4 5) (fun _ => ⟨rfl, rfl, rfl, rfl, trivial⟩) (fun _ => List.Sublist.refl _) (fun b34 x36 s35 => s_T (T := ((if x36.2 = true then ((Sum.elim (fun (x_ : (Str × List (Str × List Int) × Str)) => some x_.1) (Sum.elim (fun (x_ : (Str × List (Str × List Int) × Str × (Str × (Str ⊕ (List (Int ⊕ (Str ⊕ (List Int)))))))) => some x_.1) (fun (x_ : (Str × List (Str × List Int) × Str × Int × Int)) => some x_.1))) (x36.1)).bind fun u40 => ((if (decide (u40 = ("rule" : Str))) = true then ((Sum.elim (fun (x_ : (Str × List (Str × List Int) × Str)) => some x_.2.2) (Sum.elim (fun (x_ : (Str × List (Str × List Int) × Str × (Str × (Str ⊕ (List (Int ⊕ (Str ⊕ (List Int)))))))) => some x_.2.2.1) (fun (x_ : (Str × List (Str × List Int) × Str × Int × Int)) => some x_.2.2.1))) (x36.1)).bind fun u42 => some ((!decide (u42 ∈ s35)), ()) else some (false, ()))).bind fun c43 => some (c43.1, ()) else some (false, ()))).bind fun c44 => (if c44.1 = true then ((Sum.elim (fun (_ : (Str × List (Str × List Int) × Str)) => (none : Option Str)) (Sum.elim (fun (x_ : (Str × List (Str × List Int) × Str × (Str × (Str ⊕ (List (Int ⊕ (Str ⊕ (List Int)))))))) => some x_.2.2.1) (fun (_ : (Str × List (Str × List Int) × Str × Int × Int)) => (none : Option Str)))) (x36.1)).bind fun u47 => grd (s35.length < sizeLine) (some (s35 ++ [u47])) else some s35).bind fun s46 => some s46) (s_ifN (C := fun s_ : (List Str) => ([some ((pL (pSm (pT3 pStr (pM (κ := Str) (pL pInt)) pStr) (pSm (pT4 pStr (pM (κ := Str) (pL pInt)) pStr (pT2 pStr (pSm pStr (pL (pSm pInt (pSm pStr (pL pInt))))))) (pT5 pStr (pM (κ := Str) (pL pInt)) pStr pInt pInt)))) a1), some (pInt a2), some ((pL pBl) x27), some (pV v33), some ((pSm (pT3 pStr (pM (κ := Str) (pL pInt)) pStr) (pSm (pT4 pStr (pM (κ := Str) (pL pInt)) pStr (pT2 pStr (pSm pStr (pL (pSm pInt (pSm pStr (pL pInt))))))) (pT5 pStr (pM (κ := Str) (pL pInt)) pStr pInt pInt))) x36.1), some (pBl x36.2)], [⟨v33, (oL pStr) s_, none⟩])) (t_kd (c := fun (b_ : (Unit × (Bool × Unit))) => b_.2.1) (PW.pt (w_andM (ΔS := fun (b_ : Unit) (s_ : Unit) => [⟨v33, (oL pStr) s35, none⟩]) (s1 := fun (b_ : Unit) => ()) (s2 := fun (b_ : Unit) (c_ : (((Unit × Str) × Unit) × (Bool × Unit))) => ()) (t_kd (c := fun (b_ : Unit) => x36.2) (t_val (x_var (p := pBl x36.2) 5))) (fun _ => w_andM (ΔS := fun (b_ : ((Unit × Str) × Unit)) (s_ : Unit) => [⟨v33, (oL pStr) s35, none⟩]) (s1 := fun (b_ : ((Unit × Str) × Unit)) => ()) (s2 := fun (b_ : ((Unit × Str) × Unit)) (c_ : ((Unit × Str) × Unit)) => ()) (t_kd (c := fun (b_ : ((Unit × Str) × Unit)) => (decide (b_.1.2 = ("rule" : Str)))) (t_eqS (x_kd (E := fun (b_ : (Unit × Str)) => pStr b_.2) (x_ixP (P := (pSm (pT3 pStr (pM (κ := Str) (pL pInt)) pStr) (pSm (pT4 pStr (pM (κ := Str) (pL pInt)) pStr (pT2 pStr (pSm pStr (pL (pSm pInt (pSm pStr (pL pInt))))))) (pT5 pStr (pM (κ := Str) (pL pInt)) pStr pInt pInt)))) (E := pStr) 0 (g := (Sum.elim (fun (x_ : (Str × List (Str × List Int) × Str)) => some x_.1) (Sum.elim (fun (x_ : (Str × List (Str × List Int) × Str × (Str × (Str ⊕ (List (Int ⊕ (Str ⊕ (List Int)))))))) => some x_.1) (fun (x_ : (Str × List (Str × List Int) × Str × Int × Int)) => some x_.1)))) (ix_sm ix_t30 (ix_sm ix_t40 ix_t50)) (x_var (p := (pSm (pT3 pStr (pM (κ := Str) (pL pInt)) pStr) (pSm (pT4 pStr (pM (κ := Str) (pL pInt)) pStr (pT2 pStr (pSm pStr (pL (pSm pInt (pSm pStr (pL pInt))))))) (pT5 pStr (pM (κ := Str) (pL pInt)) pStr pInt pInt))) x36.1) 4))) (fun _ => x_str))) (fun _ => w_and1 (t_kd (c := fun (b_ : ((Unit × Str) × Unit)) => (!decide (b_.1.2 ∈ s35))) (t_ninL flStr (x_kd (E := fun (b_ : (Unit × Str)) => pStr b_.2) (x_ixP (P := (pSm (pT3 pStr (pM (κ := Str) (pL pInt)) pStr) (pSm (pT4 pStr (pM (κ := Str) (pL pInt)) pStr (pT2 pStr (pSm pStr (pL (pSm pInt (pSm pStr (pL pInt))))))) (pT5 pStr (pM (κ := Str) (pL pInt)) pStr pInt pInt)))) (E := pStr) 2 (g := (Sum.elim (fun (x_ : (Str × List (Str × List Int) × Str)) => some x_.2.2) (Sum.elim (fun (x_ : (Str × List (Str × List Int) × Str × (Str × (Str ⊕ (List (Int ⊕ (Str ⊕ (List Int)))))))) => some x_.2.2.1) (fun (x_ : (Str × List (Str × List Int) × Str × Int × Int)) => some x_.2.2.1)))) (ix_sm ix_t32 (ix_sm ix_t42 ix_t52)) (x_var (p := (pSm (pT3 pStr (pM (κ := Str) (pL pInt)) pStr) (pSm (pT4 pStr (pM (κ := Str) (pL pInt)) pStr (pT2 pStr (pSm pStr (pL (pSm pInt (pSm pStr (pL pInt))))))) (pT5 pStr (pM (κ := Str) (pL pInt)) pStr pInt pInt))) x36.1) 4))) (fun _ => x_var (p := pV v33) 3) (fun _ _ => rdO 0)))) (fun _ => rfl) (fun _ _ => rfl)) (fun _ => rfl) (fun _ _ => rfl)))) (fun (b45 : (Unit × (Bool × Unit))) => s_T (T := ((Sum.elim (fun (_ : (Str × List (Str × List Int) × Str)) => (none : Option Str)) (Sum.elim (fun (x_ : (Str × List (Str × List Int) × Str × (Str × (Str ⊕ (List (Int ⊕ (Str ⊕ (List Int)))))))) => some x_.2.2.1) (fun (_ : (Str × List (Str × List Int) × Str × Int × Int)) => (none : Option Str)))) (x36.1)).bind fun u47 => grd (s35.length < sizeLine) (some (s35 ++ [u47]))) (s_expr (x_app 0 (x_var (p := pV v33) 3) (fun _ => x_kd (E := fun (b_ : (Unit × Str)) => pStr b_.2) (x_ixP (P := (pSm (pT3 pStr (pM (κ := Str) (pL pInt)) pStr) (pSm (pT4 pStr (pM (κ := Str) (pL pInt)) pStr (pT2 pStr (pSm pStr (pL (pSm pInt (pSm pStr (pL pInt))))))) (pT5 pStr (pM (κ := Str) (pL pInt)) pStr pInt pInt)))) (E := pStr) 2 (g := (Sum.elim (fun (_ : (Str × List (Str × List Int) × Str)) => (none : Option Str)) (Sum.elim (fun (x_ : (Str × List (Str × List Int) × Str × (Str × (Str ⊕ (List (Int ⊕ (Str ⊕ (List Int)))))))) => some x_.2.2.1) (fun (_ : (Str × List (Str × List Int) × Str × Int × Int)) => (none : Option Str))))) (ix_sm ix_no (ix_sm ix_t42 ix_no)) (x_var (p := (pSm (pT3 pStr (pM (κ := Str) (pL pInt)) pStr) (pSm (pT4 pStr (pM (κ := Str) (pL pInt)) pStr (pT2 pStr (pSm pStr (pL (pSm pInt (pSm pStr (pL pInt))))))) (pT5 pStr (pM (κ := Str) (pL pInt)) pStr pInt pInt))) x36.1) 4))) (fun _ => rfl) (fun _ _ => rfl)) fun (b48 : (Unit × (Unit × Str))) => s_end (s35 ++ [b48.2.2]) rfl ⟨rfl, rfl, rfl, rfl, rfl, rfl, trivial⟩ (List.Sublist.refl _))) (fun (b45 : (Unit × (Bool × Unit))) => s_end s35 rfl ⟨rfl, rfl, rfl, rfl, rfl, rfl, trivial⟩ (List.Sublist.refl _)) fun (b45 : (Unit × (Bool × Unit))) s46 => s_end s46 rfl ⟨rfl, rfl, rfl, rfl, trivial⟩ (List.Sublist.refl _))) fun b34 s37 => s_frz (i := 3) (c := ⟨v33, (oL pStr) s37, none⟩) 0 (s_T (T := grd (s37.length < 64) (some (Except.ok (ε := Er) (srtS s37)))) (s_retO (P := (fun _ => [])) (Ro := (oL pStr)) (ι := (Except.ok (ε := Er))) (rv := fun (b : Unit) => (srtS s37)) (fun _ _ _ h => h) (o_kd (E := fun (b_ : Unit) => (oL pStr) (srtS s37)) (x_sortedS m_sorted (x_var (p := (pL pStr) s37) 3) (fun _ => rdF))) (fun _ => List.Sublist.refl _)))))))) (by unfold M_rests_on; rfl)
end
end My
end
section
set_option maxHeartbeats 4000000
set_option synthInstance.maxSize 2000
namespace My
open PySem PySem.Spec PyProof.Rows L2 L3
section
variable {P : Program} {w : World} {K : PySem.W.Frag} {mg : Str → Option Value} {base : Heap}
theorem sc_l_is_integer : FnScope ["_law_actual"] ["_law_actual"] (defScope (top 9)) := ⟨rfl, rfl, rfl, by decide +kernel, rfl, by decide +kernel, by decide +kernel⟩
theorem ok_l_is_integer {f : Addr} {fd : FuncData} (C : Ev P K mg) (FD : FnP K "_law_is_integer" (top 9) f fd)   : FnOk P w K mg base CX0 1 f fd ["_law_actual"] (Sp_F_f pInt M_l_is_integer pBl) := by
  have m_bool := C.m_bool
  have m_int := C.m_int
  have m_isinstance := C.m_isinstance
  refine fn_F_f FD sc_l_is_integer rfl fun cdv A outer s H E hr  a1 => ?_
  exact s_is (s_T (T := some (true && (!false))) (s_ret (P := (fun _ => [])) (Rp := pBl) (ι := id) (rv := fun (b : Unit) => (true && (!false))) (fun _ _ _ h => h) (x_kd (E := fun (b_ : Unit) => pBl (true && (!false))) (v_and (x_totV (pBl true) () (fun _ => rfl) (by exact (x_kd (E := fun (b_ : Unit) => pBl true) (x_isi (cn := "int") (fun _ => "int") (fun _ => true) m_isinstance m_int (y_var (p := pInt a1) 0) (fun _ => tyInt) (fun _ => by decide +kernel) (by decide +kernel))))) (v_one (x_totV (pBl (!false)) () (fun _ => rfl) (by exact (x_kd (E := fun (b_ : Unit) => pBl (!false)) (x_not (x_kd (E := fun (b_ : Unit) => pBl false) (x_isi (cn := "bool") (fun _ => "int") (fun _ => false) m_isinstance m_bool (y_var (p := pInt a1) 0) (fun _ => tyInt) (fun _ => by decide +kernel) (by decide +kernel)))))))))) (fun _ => List.Sublist.refl _))) (by unfold M_l_is_integer; rfl)
theorem okq_l_is_integer {f : Addr} {fd : FuncData} (C : Ev P K mg) (FD : FnP K "_law_is_integer" (top 9) f fd)   : FnQ P w K mg base CX0 1 f fd ["_law_actual"] (SpQ1 pInt M_l_is_integer pBl) := by
  have m_bool := C.m_bool
  have m_int := C.m_int
  have m_isinstance := C.m_isinstance
  refine fn_Q1 FD sc_l_is_integer rfl fun cdv A outer s H E p hr a1 => ?_
  exact s_is (s_T (T := some (true && (!false))) (s_ret (P := (fun _ => [])) (Rp := pBl) (ι := id) (rv := fun (b : Unit) => (true && (!false))) (fun _ _ _ h => h) (x_kd (E := fun (b_ : Unit) => pBl (true && (!false))) (v_and (x_totV (pBl true) () (fun _ => rfl) (by exact (x_kd (E := fun (b_ : Unit) => pBl true) (x_isi (cn := "int") (fun _ => "int") (fun _ => true) m_isinstance m_int (y_var (p := pInt a1) 0) (fun _ => tyInt) (fun _ => by decide +kernel) (by decide +kernel))))) (v_one (x_totV (pBl (!false)) () (fun _ => rfl) (by exact (x_kd (E := fun (b_ : Unit) => pBl (!false)) (x_not (x_kd (E := fun (b_ : Unit) => pBl false) (x_isi (cn := "bool") (fun _ => "int") (fun _ => false) m_isinstance m_bool (y_var (p := pInt a1) 0) (fun _ => tyInt) (fun _ => by decide +kernel) (by decide +kernel)))))))))) (fun _ => List.Sublist.refl _))) (by unfold M_l_is_integer; rfl)
end
end My
end
section
set_option maxHeartbeats 4000000
set_option synthInstance.maxSize 2000
namespace My
open PySem PySem.Spec PyProof.Rows L2 L3
section
variable {P : Program} {w : World} {K : PySem.W.Frag} {mg : Str → Option Value} {base : Heap}
theorem sc_l_stream : FnScope ["_law_script", "_law_k", "_law_cell"] ["_law_script", "_law_k"] (defScope (top 10)) := ⟨rfl, rfl, rfl, by decide +kernel, rfl, by decide +kernel, by decide +kernel⟩
theorem ok_l_stream {f : Addr} {fd : FuncData} (C : Ev P K mg) (FD : FnP K "_law_stream" (top 10) f fd)   : FnOk P w K mg base CX0 1 f fd ["_law_script", "_law_k"] (Sp_FF_o (pS K) pInt M_l_stream (oL pInt)) := by
  have m_int := C.m_int
  have m_len := C.m_len
  refine fn_FF_o FD sc_l_stream rfl fun cdv A outer s H E hr  a1 a2 => ?_
  exact s_is (s_T (T := (some ((0 : Int) : Int)).bind fun x49 => (if (decide (a2 < (a1.length : Int))) = true then (atI a1 a2).bind fun x53 => (some (x53 : Int)).bind fun x54 => some x54 else some x49).bind fun s52 => grd ((sm s52 || sm (if (decide (((10 : Int) ^ (18 : Int).toNat) ≤ s52)) then 1 else 0 : Int)) = true) (some ([(s52 * (if (decide (((10 : Int) ^ (18 : Int).toNat) ≤ s52)) then 1 else 0 : Int)), (0 : Int), s52]))) (s_let (i := 2) pInt sc_l_stream.nd (x_int (i := 0)) fun (b50 : Unit) x49 => s_T (T := (if (decide (a2 < (a1.length : Int))) = true then (atI a1 a2).bind fun x53 => (some (x53 : Int)).bind fun x54 => some x54 else some x49).bind fun s52 => grd ((sm s52 || sm (if (decide (((10 : Int) ^ (18 : Int).toNat) ≤ s52)) then 1 else 0 : Int)) = true) (some ([(s52 * (if (decide (((10 : Int) ^ (18 : Int).toNat) ≤ s52)) then 1 else 0 : Int)), (0 : Int), s52]))) (s_ifN (C := fun s_ : Int => ([some ((pS K) a1), some (pInt a2), some (pInt s_)], [])) (t_kd (c := fun (b_ : (Unit × Unit)) => (decide (a2 < (a1.length : Int)))) (t_lt (x_var (p := pInt a2) 1) (fun _ => x_kd (E := fun (b_ : Unit) => pInt (a1.length : Int)) (x_lenS m_len (x_var (p := (pS K) a1) 0))))) (fun (b51 : (Unit × Unit)) => s_T (T := (atI a1 a2).bind fun x53 => (some (x53 : Int)).bind fun x54 => some x54) (s_let (i := 2) pInt sc_l_stream.nd (x_kd (E := fun (b_ : ((Unit × Unit) × Int)) => pInt b_.2) (x_ixS (x_var (p := (pS K) a1) 0) (fun _ => x_var (p := pInt a2) 1))) fun (b55 : ((Unit × Unit) × Int)) x54 => s_end x54 rfl ⟨rfl, rfl, rfl, trivial⟩ (List.Sublist.refl _))) (fun (b51 : (Unit × Unit)) => s_end x49 rfl ⟨rfl, rfl, rfl, trivial⟩ (List.Sublist.refl _)) fun (b51 : (Unit × Unit)) s52 => s_T (T := grd ((sm s52 || sm (if (decide (((10 : Int) ^ (18 : Int).toNat) ≤ s52)) then 1 else 0 : Int)) = true) (some ([(s52 * (if (decide (((10 : Int) ^ (18 : Int).toNat) ≤ s52)) then 1 else 0 : Int)), (0 : Int), s52]))) (s_retO (P := (fun _ => [])) (Ro := (oL pInt)) (ι := id) (rv := fun (b : ((Unit × (Unit × (Unit × Unit))) × (Unit × (Unit × Unit)))) => [(s52 * (if (decide (((10 : Int) ^ (18 : Int).toNat) ≤ s52)) then 1 else 0 : Int)), (0 : Int), s52]) (fun _ _ _ h => h) (o_kd (o_kd (E := fun (b_ : ((Unit × (Unit × (Unit × Unit))) × (Unit × (Unit × Unit)))) => (oL pInt) ([(s52 * (if (decide (((10 : Int) ^ (18 : Int).toNat) ≤ s52)) then 1 else 0 : Int)), (0 : Int), s52])) (x_disp pInt (fun _ => [_, _, _]) (a_cons (x_kd (E := fun (b_ : (Unit × (Unit × (Unit × Unit)))) => pInt (s52 * (if (decide (((10 : Int) ^ (18 : Int).toNat) ≤ s52)) then 1 else 0 : Int))) (x_mul (x_var (p := pInt s52) 2) (fun _ => x_kd (E := fun (b_ : (Unit × (Unit × Unit))) => pInt (if (decide (((10 : Int) ^ (18 : Int).toNat) ≤ s52)) then 1 else 0 : Int)) (x_intB m_int (x_kd (E := fun (b_ : (Unit × (Unit × Unit))) => pBl (decide (((10 : Int) ^ (18 : Int).toNat) ≤ s52))) (x_ge (x_var (p := pInt s52) 2) (fun _ => x_kd (E := fun (b_ : (Unit × Unit)) => pInt ((10 : Int) ^ (18 : Int).toNat)) (x_pow (x_int (i := 10)) (fun _ => x_int (i := 18)) (fun _ _ => by decide))))))))) (fun _ => a_cons (x_int (i := 0)) (fun _ => a_cons (x_var (p := pInt s52) 2) (fun _ => a_nil)))) (fun _ => rfl) (fun _ => by simp)))) (fun _ => List.Sublist.refl _))))) (by unfold M_l_stream; rfl)
end
end My
end
section
set_option maxHeartbeats 4000000
set_option synthInstance.maxSize 2000
namespace My
open PySem PySem.Spec PyProof.Rows L2 L3
section
variable {P : Program} {w : World} {K : PySem.W.Frag} {mg : Str → Option Value} {base : Heap}
theorem sc_l_next : FnScope ["_law_stream_here", "_law_size", "_law_mixed", "_law_digit"] ["_law_stream_here", "_law_size"] (defScope (top 11)) := ⟨rfl, rfl, rfl, by decide +kernel, rfl, by decide +kernel, by decide +kernel⟩
theorem ok_l_next {f : Addr} {fd : FuncData} (C : Ev P K mg) (FD : FnP K "_law_next" (top 11) f fd)   : FnOk P w K mg base CX0 1 f fd ["_law_stream_here", "_law_size"] (Sp_OF_f (oL pInt) pInt M_l_next pInt) := by
  have m_int := C.m_int
  refine fn_OF_f FD sc_l_next rfl fun cdv A outer s H E hr v1 G1 a1 a2 => ?_
  exact s_is (s_T (T := (atI a1 (1 : Int)).bind fun x56 => (ixN a1.length (1 : Int)).bind fun (_ : Nat) => (atI (a1.set ((ixN a1.length (1 : Int)).getD 0) (x56 + (1 : Int))) (0 : Int)).bind fun x58 => if (decide ((0 : Int) < x58)) = true then (atI (a1.set ((ixN a1.length (1 : Int)).getD 0) (x56 + (1 : Int))) (0 : Int)).bind fun x60 => grd (0 < a2) ((some ((x60 % a2) : Int)).bind fun x61 => (atI (a1.set ((ixN a1.length (1 : Int)).getD 0) (x56 + (1 : Int))) (0 : Int)).bind fun x63 => grd (dv a2 = true) ((ixN (a1.set ((ixN a1.length (1 : Int)).getD 0) (x56 + (1 : Int))).length (0 : Int)).bind fun (_ : Nat) => some (x61, ((a1.set ((ixN a1.length (1 : Int)).getD 0) (x56 + (1 : Int))).set ((ixN (a1.set ((ixN a1.length (1 : Int)).getD 0) (x56 + (1 : Int))).length (0 : Int)).getD 0) (x63 / a2))))) else (atI (a1.set ((ixN a1.length (1 : Int)).getD 0) (x56 + (1 : Int))) (2 : Int)).bind fun x65 => (atI (a1.set ((ixN a1.length (1 : Int)).getD 0) (x56 + (1 : Int))) (1 : Int)).bind fun x66 => grd ((sm (7919 : Int) || sm x66) = true) (grd (0 < (2147483647 : Int)) ((some ((((x65 + ((7919 : Int) * x66)) + (13 : Int)) % (2147483647 : Int)) : Int)).bind fun x67 => grd ((sm x67 || sm (x67 + (48271 : Int))) = true) (grd (0 < (2147483629 : Int)) ((some (((x67 * (x67 + (48271 : Int))) % (2147483629 : Int)) : Int)).bind fun x69 => grd ((sm x69 || sm (x69 + (69621 : Int))) = true) ((atI (a1.set ((ixN a1.length (1 : Int)).getD 0) (x56 + (1 : Int))) (1 : Int)).bind fun x71 => grd ((sm (31 : Int) || sm x71) = true) (grd (0 < (2147483647 : Int)) ((some ((((x69 * (x69 + (69621 : Int))) + ((31 : Int) * x71)) % (2147483647 : Int)) : Int)).bind fun x72 => grd (dv (9 : Int) = true) (grd (0 < a2) (some (((x72 / (9 : Int)) % a2), (a1.set ((ixN a1.length (1 : Int)).getD 0) (x56 + (1 : Int)))))))))))))) (s_setL 0 (x_kd (E := fun (b_ : (((Unit × Unit) × Int) × Unit)) => pInt (b_.1.2 + (1 : Int))) (x_add (x_kd (E := fun (b_ : ((Unit × Unit) × Int)) => pInt b_.2) (x_ixL (Ee := pInt) (x_var (p := pV v1) 0) (fun _ => x_int (i := 1)) (fun _ _ => rdO 0))) (fun _ => x_int (i := 1)))) (fun _ => x_var (p := pV v1) 0) (fun _ _ => x_int (i := 1)) (fun _ _ _ => rfl) fun (b57 : (((((Unit × Unit) × Int) × Unit) × Unit) × Unit)) => s_T (T := (atI (a1.set ((ixN a1.length (1 : Int)).getD 0) (b57.1.1.1.2 + (1 : Int))) (0 : Int)).bind fun x58 => if (decide ((0 : Int) < x58)) = true then (atI (a1.set ((ixN a1.length (1 : Int)).getD 0) (b57.1.1.1.2 + (1 : Int))) (0 : Int)).bind fun x60 => grd (0 < a2) ((some ((x60 % a2) : Int)).bind fun x61 => (atI (a1.set ((ixN a1.length (1 : Int)).getD 0) (b57.1.1.1.2 + (1 : Int))) (0 : Int)).bind fun x63 => grd (dv a2 = true) ((ixN (a1.set ((ixN a1.length (1 : Int)).getD 0) (b57.1.1.1.2 + (1 : Int))).length (0 : Int)).bind fun (_ : Nat) => some (x61, ((a1.set ((ixN a1.length (1 : Int)).getD 0) (b57.1.1.1.2 + (1 : Int))).set ((ixN (a1.set ((ixN a1.length (1 : Int)).getD 0) (b57.1.1.1.2 + (1 : Int))).length (0 : Int)).getD 0) (x63 / a2))))) else (atI (a1.set ((ixN a1.length (1 : Int)).getD 0) (b57.1.1.1.2 + (1 : Int))) (2 : Int)).bind fun x65 => (atI (a1.set ((ixN a1.length (1 : Int)).getD 0) (b57.1.1.1.2 + (1 : Int))) (1 : Int)).bind fun x66 => grd ((sm (7919 : Int) || sm x66) = true) (grd (0 < (2147483647 : Int)) ((some ((((x65 + ((7919 : Int) * x66)) + (13 : Int)) % (2147483647 : Int)) : Int)).bind fun x67 => grd ((sm x67 || sm (x67 + (48271 : Int))) = true) (grd (0 < (2147483629 : Int)) ((some (((x67 * (x67 + (48271 : Int))) % (2147483629 : Int)) : Int)).bind fun x69 => grd ((sm x69 || sm (x69 + (69621 : Int))) = true) ((atI (a1.set ((ixN a1.length (1 : Int)).getD 0) (b57.1.1.1.2 + (1 : Int))) (1 : Int)).bind fun x71 => grd ((sm (31 : Int) || sm x71) = true) (grd (0 < (2147483647 : Int)) ((some ((((x69 * (x69 + (69621 : Int))) + ((31 : Int) * x71)) % (2147483647 : Int)) : Int)).bind fun x72 => grd (dv (9 : Int) = true) (grd (0 < a2) (some (((x72 / (9 : Int)) % a2), (a1.set ((ixN a1.length (1 : Int)).getD 0) (b57.1.1.1.2 + (1 : Int)))))))))))))) (s_ifT (ins_F _) (t_kd (c := fun (b_ : (((Unit × Unit) × Int) × Unit)) => (decide ((0 : Int) < b_.1.2))) (t_gt (x_kd (E := fun (b_ : ((Unit × Unit) × Int)) => pInt b_.2) (x_ixL (Ee := pInt) (x_var (p := pV v1) 0) (fun _ => x_int (i := 0)) (fun _ _ => rdO 0))) (fun _ => x_int (i := 0)))) (fun (b59 : (((Unit × Unit) × Int) × Unit)) => s_T (T := (atI (a1.set ((ixN a1.length (1 : Int)).getD 0) (b57.1.1.1.2 + (1 : Int))) (0 : Int)).bind fun x60 => grd (0 < a2) ((some ((x60 % a2) : Int)).bind fun x61 => (atI (a1.set ((ixN a1.length (1 : Int)).getD 0) (b57.1.1.1.2 + (1 : Int))) (0 : Int)).bind fun x63 => grd (dv a2 = true) ((ixN (a1.set ((ixN a1.length (1 : Int)).getD 0) (b57.1.1.1.2 + (1 : Int))).length (0 : Int)).bind fun (_ : Nat) => some (x61, ((a1.set ((ixN a1.length (1 : Int)).getD 0) (b57.1.1.1.2 + (1 : Int))).set ((ixN (a1.set ((ixN a1.length (1 : Int)).getD 0) (b57.1.1.1.2 + (1 : Int))).length (0 : Int)).getD 0) (x63 / a2)))))) (s_let (i := 3) pInt sc_l_next.nd (x_kd (E := fun (b_ : (((Unit × Unit) × Int) × Unit)) => pInt (b_.1.2 % a2)) (x_mod (x_kd (E := fun (b_ : ((Unit × Unit) × Int)) => pInt b_.2) (x_intI m_int (x_kd (E := fun (b_ : ((Unit × Unit) × Int)) => pInt b_.2) (x_ixL (Ee := pInt) (x_var (p := pV v1) 0) (fun _ => x_int (i := 0)) (fun _ _ => rdO 0))))) (fun _ => x_var (p := pInt a2) 1))) fun (b62 : (((Unit × Unit) × Int) × Unit)) x61 => s_T (T := (atI (a1.set ((ixN a1.length (1 : Int)).getD 0) (b57.1.1.1.2 + (1 : Int))) (0 : Int)).bind fun x63 => grd (dv a2 = true) ((ixN (a1.set ((ixN a1.length (1 : Int)).getD 0) (b57.1.1.1.2 + (1 : Int))).length (0 : Int)).bind fun (_ : Nat) => some (x61, ((a1.set ((ixN a1.length (1 : Int)).getD 0) (b57.1.1.1.2 + (1 : Int))).set ((ixN (a1.set ((ixN a1.length (1 : Int)).getD 0) (b57.1.1.1.2 + (1 : Int))).length (0 : Int)).getD 0) (x63 / a2))))) (s_setL 0 (x_kd (E := fun (b_ : (((Unit × Unit) × Int) × Unit)) => pInt (b_.1.2 / a2)) (x_fdiv (x_kd (E := fun (b_ : ((Unit × Unit) × Int)) => pInt b_.2) (x_ixL (Ee := pInt) (x_var (p := pV v1) 0) (fun _ => x_int (i := 0)) (fun _ _ => rdO 0))) (fun _ => x_var (p := pInt a2) 1))) (fun _ => x_var (p := pV v1) 0) (fun _ _ => x_int (i := 0)) (fun _ _ _ => rfl) fun (b64 : (((((Unit × Unit) × Int) × Unit) × Unit) × Unit)) => s_T (T := some (x61, ((a1.set ((ixN a1.length (1 : Int)).getD 0) (b57.1.1.1.2 + (1 : Int))).set ((ixN (a1.set ((ixN a1.length (1 : Int)).getD 0) (b57.1.1.1.2 + (1 : Int))).length (0 : Int)).getD 0) (b64.1.1.1.2 / a2)))) (s_ret (P := (fun (r : Int × (List Int)) => [⟨v1, (oL pInt) r.2, some 0⟩])) (Rp := (fun (r : Int × (List Int)) => pInt r.1)) (ι := id) (rv := fun (b : Unit) => (x61, ((a1.set ((ixN a1.length (1 : Int)).getD 0) (b57.1.1.1.2 + (1 : Int))).set ((ixN (a1.set ((ixN a1.length (1 : Int)).getD 0) (b57.1.1.1.2 + (1 : Int))).length (0 : Int)).getD 0) (b64.1.1.1.2 / a2)))) (fun _ _ _ h => h) (x_var (p := pInt x61) 3) (fun _ => List.Sublist.refl _))))) fun (b59 : (((Unit × Unit) × Int) × Unit)) => s_T (T := (atI (a1.set ((ixN a1.length (1 : Int)).getD 0) (b57.1.1.1.2 + (1 : Int))) (2 : Int)).bind fun x65 => (atI (a1.set ((ixN a1.length (1 : Int)).getD 0) (b57.1.1.1.2 + (1 : Int))) (1 : Int)).bind fun x66 => grd ((sm (7919 : Int) || sm x66) = true) (grd (0 < (2147483647 : Int)) ((some ((((x65 + ((7919 : Int) * x66)) + (13 : Int)) % (2147483647 : Int)) : Int)).bind fun x67 => grd ((sm x67 || sm (x67 + (48271 : Int))) = true) (grd (0 < (2147483629 : Int)) ((some (((x67 * (x67 + (48271 : Int))) % (2147483629 : Int)) : Int)).bind fun x69 => grd ((sm x69 || sm (x69 + (69621 : Int))) = true) ((atI (a1.set ((ixN a1.length (1 : Int)).getD 0) (b57.1.1.1.2 + (1 : Int))) (1 : Int)).bind fun x71 => grd ((sm (31 : Int) || sm x71) = true) (grd (0 < (2147483647 : Int)) ((some ((((x69 * (x69 + (69621 : Int))) + ((31 : Int) * x71)) % (2147483647 : Int)) : Int)).bind fun x72 => grd (dv (9 : Int) = true) (grd (0 < a2) (some (((x72 / (9 : Int)) % a2), (a1.set ((ixN a1.length (1 : Int)).getD 0) (b57.1.1.1.2 + (1 : Int)))))))))))))) (s_let (i := 2) pInt sc_l_next.nd (x_kd (E := fun (b_ : (((((Unit × Unit) × Int) × (Unit × ((Unit × Unit) × Int))) × Unit) × Unit)) => pInt (((b_.1.1.1.2 + ((7919 : Int) * b_.1.1.2.2.2)) + (13 : Int)) % (2147483647 : Int))) (x_mod (x_kd (E := fun (b_ : ((((Unit × Unit) × Int) × (Unit × ((Unit × Unit) × Int))) × Unit)) => pInt ((b_.1.1.2 + ((7919 : Int) * b_.1.2.2.2)) + (13 : Int))) (x_intI m_int (x_kd (E := fun (b_ : ((((Unit × Unit) × Int) × (Unit × ((Unit × Unit) × Int))) × Unit)) => pInt ((b_.1.1.2 + ((7919 : Int) * b_.1.2.2.2)) + (13 : Int))) (x_add (x_kd (E := fun (b_ : (((Unit × Unit) × Int) × (Unit × ((Unit × Unit) × Int)))) => pInt (b_.1.2 + ((7919 : Int) * b_.2.2.2))) (x_add (x_kd (E := fun (b_ : ((Unit × Unit) × Int)) => pInt b_.2) (x_ixL (Ee := pInt) (x_var (p := pV v1) 0) (fun _ => x_int (i := 2)) (fun _ _ => rdO 0))) (fun _ => x_kd (E := fun (b_ : (Unit × ((Unit × Unit) × Int))) => pInt ((7919 : Int) * b_.2.2)) (x_mul (x_int (i := 7919)) (fun _ => x_kd (E := fun (b_ : ((Unit × Unit) × Int)) => pInt b_.2) (x_ixL (Ee := pInt) (x_var (p := pV v1) 0) (fun _ => x_int (i := 1)) (fun _ _ => rdO 0))))))) (fun _ => x_int (i := 13)))))) (fun _ => x_int (i := 2147483647)))) fun (b68 : (((((Unit × Unit) × Int) × (Unit × ((Unit × Unit) × Int))) × Unit) × Unit)) x67 => s_T (T := grd ((sm x67 || sm (x67 + (48271 : Int))) = true) (grd (0 < (2147483629 : Int)) ((some (((x67 * (x67 + (48271 : Int))) % (2147483629 : Int)) : Int)).bind fun x69 => grd ((sm x69 || sm (x69 + (69621 : Int))) = true) ((atI (a1.set ((ixN a1.length (1 : Int)).getD 0) (b57.1.1.1.2 + (1 : Int))) (1 : Int)).bind fun x71 => grd ((sm (31 : Int) || sm x71) = true) (grd (0 < (2147483647 : Int)) ((some ((((x69 * (x69 + (69621 : Int))) + ((31 : Int) * x71)) % (2147483647 : Int)) : Int)).bind fun x72 => grd (dv (9 : Int) = true) (grd (0 < a2) (some (((x72 / (9 : Int)) % a2), (a1.set ((ixN a1.length (1 : Int)).getD 0) (b57.1.1.1.2 + (1 : Int)))))))))))) (s_let (i := 2) pInt sc_l_next.nd (x_kd (E := fun (b_ : ((Unit × (Unit × Unit)) × Unit)) => pInt ((x67 * (x67 + (48271 : Int))) % (2147483629 : Int))) (x_mod (x_kd (E := fun (b_ : (Unit × (Unit × Unit))) => pInt (x67 * (x67 + (48271 : Int)))) (x_intI m_int (x_kd (E := fun (b_ : (Unit × (Unit × Unit))) => pInt (x67 * (x67 + (48271 : Int)))) (x_mul (x_var (p := pInt x67) 2) (fun _ => x_kd (E := fun (b_ : (Unit × Unit)) => pInt (x67 + (48271 : Int))) (x_add (x_var (p := pInt x67) 2) (fun _ => x_int (i := 48271)))))))) (fun _ => x_int (i := 2147483629)))) fun (b70 : ((Unit × (Unit × Unit)) × Unit)) x69 => s_T (T := grd ((sm x69 || sm (x69 + (69621 : Int))) = true) ((atI (a1.set ((ixN a1.length (1 : Int)).getD 0) (b57.1.1.1.2 + (1 : Int))) (1 : Int)).bind fun x71 => grd ((sm (31 : Int) || sm x71) = true) (grd (0 < (2147483647 : Int)) ((some ((((x69 * (x69 + (69621 : Int))) + ((31 : Int) * x71)) % (2147483647 : Int)) : Int)).bind fun x72 => grd (dv (9 : Int) = true) (grd (0 < a2) (some (((x72 / (9 : Int)) % a2), (a1.set ((ixN a1.length (1 : Int)).getD 0) (b57.1.1.1.2 + (1 : Int)))))))))) (s_let (i := 2) pInt sc_l_next.nd (x_kd (E := fun (b_ : (((Unit × (Unit × Unit)) × (Unit × ((Unit × Unit) × Int))) × Unit)) => pInt (((x69 * (x69 + (69621 : Int))) + ((31 : Int) * b_.1.2.2.2)) % (2147483647 : Int))) (x_mod (x_kd (E := fun (b_ : ((Unit × (Unit × Unit)) × (Unit × ((Unit × Unit) × Int)))) => pInt ((x69 * (x69 + (69621 : Int))) + ((31 : Int) * b_.2.2.2))) (x_intI m_int (x_kd (E := fun (b_ : ((Unit × (Unit × Unit)) × (Unit × ((Unit × Unit) × Int)))) => pInt ((x69 * (x69 + (69621 : Int))) + ((31 : Int) * b_.2.2.2))) (x_add (x_kd (E := fun (b_ : (Unit × (Unit × Unit))) => pInt (x69 * (x69 + (69621 : Int)))) (x_mul (x_var (p := pInt x69) 2) (fun _ => x_kd (E := fun (b_ : (Unit × Unit)) => pInt (x69 + (69621 : Int))) (x_add (x_var (p := pInt x69) 2) (fun _ => x_int (i := 69621)))))) (fun _ => x_kd (E := fun (b_ : (Unit × ((Unit × Unit) × Int))) => pInt ((31 : Int) * b_.2.2)) (x_mul (x_int (i := 31)) (fun _ => x_kd (E := fun (b_ : ((Unit × Unit) × Int)) => pInt b_.2) (x_ixL (Ee := pInt) (x_var (p := pV v1) 0) (fun _ => x_int (i := 1)) (fun _ _ => rdO 0))))))))) (fun _ => x_int (i := 2147483647)))) fun (b73 : (((Unit × (Unit × Unit)) × (Unit × ((Unit × Unit) × Int))) × Unit)) x72 => s_T (T := grd (dv (9 : Int) = true) (grd (0 < a2) (some (((x72 / (9 : Int)) % a2), (a1.set ((ixN a1.length (1 : Int)).getD 0) (b57.1.1.1.2 + (1 : Int))))))) (s_ret (P := (fun (r : Int × (List Int)) => [⟨v1, (oL pInt) r.2, some 0⟩])) (Rp := (fun (r : Int × (List Int)) => pInt r.1)) (ι := id) (rv := fun (b : ((Unit × Unit) × Unit)) => (((x72 / (9 : Int)) % a2), (a1.set ((ixN a1.length (1 : Int)).getD 0) (b57.1.1.1.2 + (1 : Int))))) (fun _ _ _ h => h) (x_kd (x_kd (E := fun (b_ : ((Unit × Unit) × Unit)) => pInt ((x72 / (9 : Int)) % a2)) (x_mod (x_kd (E := fun (b_ : (Unit × Unit)) => pInt (x72 / (9 : Int))) (x_intI m_int (x_kd (E := fun (b_ : (Unit × Unit)) => pInt (x72 / (9 : Int))) (x_fdiv (x_var (p := pInt x72) 2) (fun _ => x_int (i := 9)))))) (fun _ => x_var (p := pInt a2) 1)))) (fun _ => List.Sublist.refl _)))))))) (by unfold M_l_next; rfl)
end
end My
end
section
set_option maxHeartbeats 4000000
set_option synthInstance.maxSize 2000
namespace My
open PySem PySem.Spec PyProof.Rows L2 L3
section
variable {P : Program} {w : World} {K : PySem.W.Frag} {mg : Str → Option Value} {base : Heap}
theorem sc_l_word : FnScope ["_law_stream_here", "_law_letters", "_law_signs", "_law_word_here", "_law_k"] ["_law_stream_here"] (defScope (top 12)) := ⟨rfl, rfl, rfl, by decide +kernel, rfl, by decide +kernel, by decide +kernel⟩
theorem ok_l_word {f : Addr} {fd : FuncData} (C : Ev P K mg) (FD : FnP K "_law_word" (top 12) f fd)   : FnOk P w K mg base CX0 2 f fd ["_law_stream_here"] (Sp_O_f (oL pInt) M_l_word pStr) := by
  have m_range := C.m_range
  obtain ⟨f_l_next, fd_l_next, F_l_next, g_l_next⟩ := C.f_l_next
  have k_l_next := ok_l_next (P := P) (w := w) (base := base) C F_l_next
  have b_l_next : Binds K fd_l_next ["_law_stream_here", "_law_size"] [] := F_l_next.bindsN fun _ _ _ _ _ _ us hl => match us, hl with | [_, _], _ => rfl
  refine fn_O_f FD sc_l_word rfl fun cdv A outer s H E hr v1 G1 a1 => ?_
  exact s_is (s_T (T := (some (("abcdefghijklmnopqrstuvwxyz" : Str) : Str)).bind fun x74 => grd (x74.length + ("_0123456789" : Str).length ≤ sizeLine) ((some ((x74 ++ ("_0123456789" : Str)) : Str)).bind fun x76 => (M_l_next a1 (26 : Int)).bind fun r78 => grd (x74.length ≤ sizeLine) ((atI x74.cps.toList (r78.1)).bind fun x79 => (some ((⟨#[x79]⟩ : Str) : Str)).bind fun x80 => (M_l_next (r78.2) (8 : Int)).bind fun r82 => (atI ([(0 : Int), (0 : Int), (1 : Int), (1 : Int), (2 : Int), (4 : Int), (9 : Int), (19 : Int)]) (r82.1)).bind fun x83 => grd (rg x83 = true) ((forS (rngL 0 x83.toNat) ((x80, r82.2) : Str × (List Int)) fun x86 s85 => (M_l_next (s85.2) (37 : Int)).bind fun r88 => grd (x76.length ≤ sizeLine) ((atI x76.cps.toList (r88.1)).bind fun x89 => grd ((s85.1).length + (⟨#[x89]⟩ : Str).length ≤ sizeLine) ((some (((s85.1) ++ (⟨#[x89]⟩ : Str)) : Str)).bind fun x90 => some (x90, r88.2)))).bind fun s87 => some (s87.1, s87.2))))) (s_let (i := 1) pStr sc_l_word.nd x_str fun (b75 : Unit) x74 => s_T (T := grd (x74.length + ("_0123456789" : Str).length ≤ sizeLine) ((some ((x74 ++ ("_0123456789" : Str)) : Str)).bind fun x76 => (M_l_next a1 (26 : Int)).bind fun r78 => grd (x74.length ≤ sizeLine) ((atI x74.cps.toList (r78.1)).bind fun x79 => (some ((⟨#[x79]⟩ : Str) : Str)).bind fun x80 => (M_l_next (r78.2) (8 : Int)).bind fun r82 => (atI ([(0 : Int), (0 : Int), (1 : Int), (1 : Int), (2 : Int), (4 : Int), (9 : Int), (19 : Int)]) (r82.1)).bind fun x83 => grd (rg x83 = true) ((forS (rngL 0 x83.toNat) ((x80, r82.2) : Str × (List Int)) fun x86 s85 => (M_l_next (s85.2) (37 : Int)).bind fun r88 => grd (x76.length ≤ sizeLine) ((atI x76.cps.toList (r88.1)).bind fun x89 => grd ((s85.1).length + (⟨#[x89]⟩ : Str).length ≤ sizeLine) ((some (((s85.1) ++ (⟨#[x89]⟩ : Str)) : Str)).bind fun x90 => some (x90, r88.2)))).bind fun s87 => some (s87.1, s87.2))))) (s_let (i := 2) pStr sc_l_word.nd (x_kd (E := fun (b_ : (Unit × Unit)) => pStr (x74 ++ ("_0123456789" : Str))) (x_addS (x_var (p := pStr x74) 1) (fun _ => x_str))) fun (b77 : (Unit × Unit)) x76 => s_T (T := (M_l_next a1 (26 : Int)).bind fun r78 => grd (x74.length ≤ sizeLine) ((atI x74.cps.toList (r78.1)).bind fun x79 => (some ((⟨#[x79]⟩ : Str) : Str)).bind fun x80 => (M_l_next (r78.2) (8 : Int)).bind fun r82 => (atI ([(0 : Int), (0 : Int), (1 : Int), (1 : Int), (2 : Int), (4 : Int), (9 : Int), (19 : Int)]) (r82.1)).bind fun x83 => grd (rg x83 = true) ((forS (rngL 0 x83.toNat) ((x80, r82.2) : Str × (List Int)) fun x86 s85 => (M_l_next (s85.2) (37 : Int)).bind fun r88 => grd (x76.length ≤ sizeLine) ((atI x76.cps.toList (r88.1)).bind fun x89 => grd ((s85.1).length + (⟨#[x89]⟩ : Str).length ≤ sizeLine) ((some (((s85.1) ++ (⟨#[x89]⟩ : Str)) : Str)).bind fun x90 => some (x90, r88.2)))).bind fun s87 => some (s87.1, s87.2)))) (s_let (i := 3) pStr sc_l_word.nd (x_kd (E := fun (b_ : ((Unit × ((Unit × Unit) × (Int × (List Int)))) × Nat)) => pStr (⟨#[b_.2]⟩ : Str)) (x_ixC (x_var (p := pStr x74) 1) (fun _ => x_kd (E := fun (b_ : ((Unit × Unit) × (Int × (List Int)))) => pInt b_.2.1) (x_OF_f (kk := 1) (E1 := (oL pInt)) (E2 := pInt) (s1 := fun (_ : Unit) (_ : Unit) => a1) (v1 := v1) k_l_next (hr.mono (by decide)) g_l_next F_l_next.kp b_l_next 0 (x_var (p := pV v1) 0) (fun _ => x_int (i := 26)) (fun _ _ => rfl))))) fun (b81 : ((Unit × ((Unit × Unit) × (Int × (List Int)))) × Nat)) x80 => s_T (T := (M_l_next (b81.1.2.2.2) (8 : Int)).bind fun r82 => (atI ([(0 : Int), (0 : Int), (1 : Int), (1 : Int), (2 : Int), (4 : Int), (9 : Int), (19 : Int)]) (r82.1)).bind fun x83 => grd (rg x83 = true) ((forS (rngL 0 x83.toNat) ((x80, r82.2) : Str × (List Int)) fun x86 s85 => (M_l_next (s85.2) (37 : Int)).bind fun r88 => grd (x76.length ≤ sizeLine) ((atI x76.cps.toList (r88.1)).bind fun x89 => grd ((s85.1).length + (⟨#[x89]⟩ : Str).length ≤ sizeLine) ((some (((s85.1) ++ (⟨#[x89]⟩ : Str)) : Str)).bind fun x90 => some (x90, r88.2)))).bind fun s87 => some (s87.1, s87.2))) (s_forS PassesOwn.never (fun (b_ : (((Unit × (Unit × (Unit × (Unit × (Unit × (Unit × (Unit × (Unit × Unit)))))))) × ((Unit × Unit) × (Int × (List Int)))) × Int)) (s_ : Str × (List Int)) => ([some (pV v1), some (pStr x74), some (pStr x76), some (pStr s_.1), none], [⟨v1, (oL pInt) s_.2, some 0⟩])) (fun (b_ : (((Unit × (Unit × (Unit × (Unit × (Unit × (Unit × (Unit × (Unit × Unit)))))))) × ((Unit × Unit) × (Int × (List Int)))) × Int)) => (x80, b_.1.2.2.2)) (i_rng1 m_range (x_kd (E := fun (b_ : (((Unit × (Unit × (Unit × (Unit × (Unit × (Unit × (Unit × (Unit × Unit)))))))) × ((Unit × Unit) × (Int × (List Int)))) × Int)) => pInt b_.2) (x_ixL (Ee := pInt) (x_kd (E := fun (b_ : (Unit × (Unit × (Unit × (Unit × (Unit × (Unit × (Unit × (Unit × Unit))))))))) => (pL pInt) ([(0 : Int), (0 : Int), (1 : Int), (1 : Int), (2 : Int), (4 : Int), (9 : Int), (19 : Int)])) (x_frz (o_kd (E := fun (b_ : (Unit × (Unit × (Unit × (Unit × (Unit × (Unit × (Unit × (Unit × Unit))))))))) => (oL pInt) ([(0 : Int), (0 : Int), (1 : Int), (1 : Int), (2 : Int), (4 : Int), (9 : Int), (19 : Int)])) (x_disp pInt (fun _ => [_, _, _, _, _, _, _, _]) (a_cons (x_int (i := 0)) (fun _ => a_cons (x_int (i := 0)) (fun _ => a_cons (x_int (i := 1)) (fun _ => a_cons (x_int (i := 1)) (fun _ => a_cons (x_int (i := 2)) (fun _ => a_cons (x_int (i := 4)) (fun _ => a_cons (x_int (i := 9)) (fun _ => a_cons (x_int (i := 19)) (fun _ => a_nil))))))))) (fun _ => rfl) (fun _ => by simp))))) (fun _ => x_kd (E := fun (b_ : ((Unit × Unit) × (Int × (List Int)))) => pInt b_.2.1) (x_OF_f (kk := 1) (E1 := (oL pInt)) (E2 := pInt) (s1 := fun (_ : Unit) (_ : Unit) => b81.1.2.2.2) (v1 := v1) k_l_next (hr.mono (by decide)) g_l_next F_l_next.kp b_l_next 0 (x_var (p := pV v1) 0) (fun _ => x_int (i := 8)) (fun _ _ => rfl))) (fun _ _ => rdF)))) (pg_name (i := 4) sc_l_word.nd rfl (by first | exact .inl rfl | exact .inr rfl)) (tg_name 4) (fun _ => ⟨rfl, rfl, rfl, rfl, trivial⟩) (fun _ => List.Sublist.refl _) (fun b84 x86 s85 => s_T (T := (M_l_next (s85.2) (37 : Int)).bind fun r88 => grd (x76.length ≤ sizeLine) ((atI x76.cps.toList (r88.1)).bind fun x89 => grd ((s85.1).length + (⟨#[x89]⟩ : Str).length ≤ sizeLine) ((some (((s85.1) ++ (⟨#[x89]⟩ : Str)) : Str)).bind fun x90 => some (x90, r88.2)))) (s_let (i := 3) pStr sc_l_word.nd (x_kd (E := fun (b_ : (Unit × ((Unit × ((Unit × Unit) × (Int × (List Int)))) × Nat))) => pStr ((s85.1) ++ (⟨#[b_.2.2]⟩ : Str))) (x_addS (x_var (p := pStr s85.1) 3) (fun _ => x_kd (E := fun (b_ : ((Unit × ((Unit × Unit) × (Int × (List Int)))) × Nat)) => pStr (⟨#[b_.2]⟩ : Str)) (x_ixC (x_var (p := pStr x76) 2) (fun _ => x_kd (E := fun (b_ : ((Unit × Unit) × (Int × (List Int)))) => pInt b_.2.1) (x_OF_f (kk := 1) (E1 := (oL pInt)) (E2 := pInt) (s1 := fun (_ : Unit) (_ : Unit) => s85.2) (v1 := v1) k_l_next (hr.mono (by decide)) g_l_next F_l_next.kp b_l_next 0 (x_var (p := pV v1) 0) (fun _ => x_int (i := 37)) (fun _ _ => rfl))))))) fun (b91 : (Unit × ((Unit × ((Unit × Unit) × (Int × (List Int)))) × Nat))) x90 => s_end (x90, b91.2.1.2.2.2) rfl ⟨rfl, rfl, rfl, rfl, trivial⟩ (List.Sublist.refl _))) fun b84 s87 => s_T (T := some (s87.1, s87.2)) (s_ret (P := (fun (r : Str × (List Int)) => [⟨v1, (oL pInt) r.2, some 0⟩])) (Rp := (fun (r : Str × (List Int)) => pStr r.1)) (ι := id) (rv := fun (b : Unit) => (s87.1, s87.2)) (fun _ _ _ h => h) (x_var (p := pStr s87.1) 3) (fun _ => List.Sublist.refl _))))))) (by unfold M_l_word; rfl)
end
end My
end
section
set_option maxHeartbeats 4000000
set_option synthInstance.maxSize 2000
namespace My
open PySem PySem.Spec PyProof.Rows L2 L3
section
variable {P : Program} {w : World} {K : PySem.W.Frag} {mg : Str → Option Value} {base : Heap}
theorem sc_l_number : FnScope ["_law_stream_here", "_law_scale", "_law_number_here"] ["_law_stream_here", "_law_scale"] (defScope (top 13)) := ⟨rfl, rfl, rfl, by decide +kernel, rfl, by decide +kernel, by decide +kernel⟩
theorem ok_l_number {f : Addr} {fd : FuncData} (C : Ev P K mg) (FD : FnP K "_law_number" (top 13) f fd)   : FnOk P w K mg base CX0 2 f fd ["_law_stream_here", "_law_scale"] (Sp_OF_f (oL pInt) pInt M_l_number pInt) := by
  obtain ⟨f_l_next, fd_l_next, F_l_next, g_l_next⟩ := C.f_l_next
  have k_l_next := ok_l_next (P := P) (w := w) (base := base) C F_l_next
  have b_l_next : Binds K fd_l_next ["_law_stream_here", "_law_size"] [] := F_l_next.bindsN fun _ _ _ _ _ _ us hl => match us, hl with | [_, _], _ => rfl
  refine fn_OF_f FD sc_l_number rfl fun cdv A outer s H E hr v1 G1 a1 a2 => ?_
  exact s_is (s_T (T := (M_l_next a1 (19 : Int)).bind fun r92 => (some (((r92.1) - (9 : Int)) : Int)).bind fun x93 => (M_l_next (r92.2) (4 : Int)).bind fun r95 => if (decide ((0 : Int) < (r95.1))) = true then some (x93, r95.2) else grd ((sm x93 || sm a2) = true) ((M_l_next (r95.2) ((10 : Int) ^ (9 : Int).toNat)).bind fun r97 => some (((x93 * a2) + (r97.1)), r97.2))) (s_let (i := 2) pInt sc_l_number.nd (x_kd (E := fun (b_ : (((Unit × Unit) × (Int × (List Int))) × Unit)) => pInt ((b_.1.2.1) - (9 : Int))) (x_sub (x_kd (E := fun (b_ : ((Unit × Unit) × (Int × (List Int)))) => pInt b_.2.1) (x_OF_f (kk := 1) (E1 := (oL pInt)) (E2 := pInt) (s1 := fun (_ : Unit) (_ : Unit) => a1) (v1 := v1) k_l_next (hr.mono (by decide)) g_l_next F_l_next.kp b_l_next 0 (x_var (p := pV v1) 0) (fun _ => x_int (i := 19)) (fun _ _ => rfl))) (fun _ => x_int (i := 9)))) fun (b94 : (((Unit × Unit) × (Int × (List Int))) × Unit)) x93 => s_T (T := (M_l_next (b94.1.2.2) (4 : Int)).bind fun r95 => if (decide ((0 : Int) < (r95.1))) = true then some (x93, r95.2) else grd ((sm x93 || sm a2) = true) ((M_l_next (r95.2) ((10 : Int) ^ (9 : Int).toNat)).bind fun r97 => some (((x93 * a2) + (r97.1)), r97.2))) (s_ifT (ins_F _) (t_kd (c := fun (b_ : (((Unit × Unit) × (Int × (List Int))) × Unit)) => (decide ((0 : Int) < (b_.1.2.1)))) (t_gt (x_kd (E := fun (b_ : ((Unit × Unit) × (Int × (List Int)))) => pInt b_.2.1) (x_OF_f (kk := 1) (E1 := (oL pInt)) (E2 := pInt) (s1 := fun (_ : Unit) (_ : Unit) => b94.1.2.2) (v1 := v1) k_l_next (hr.mono (by decide)) g_l_next F_l_next.kp b_l_next 0 (x_var (p := pV v1) 0) (fun _ => x_int (i := 4)) (fun _ _ => rfl))) (fun _ => x_int (i := 0)))) (fun (b96 : (((Unit × Unit) × (Int × (List Int))) × Unit)) => s_T (T := some (x93, b96.1.2.2)) (s_ret (P := (fun (r : Int × (List Int)) => [⟨v1, (oL pInt) r.2, some 0⟩])) (Rp := (fun (r : Int × (List Int)) => pInt r.1)) (ι := id) (rv := fun (b : Unit) => (x93, b96.1.2.2)) (fun _ _ _ h => h) (x_var (p := pInt x93) 2) (fun _ => List.Sublist.refl _))) fun (b96 : (((Unit × Unit) × (Int × (List Int))) × Unit)) => s_T (T := grd ((sm x93 || sm a2) = true) ((M_l_next (b96.1.2.2) ((10 : Int) ^ (9 : Int).toNat)).bind fun r97 => some (((x93 * a2) + (r97.1)), r97.2))) (s_ret (P := (fun (r : Int × (List Int)) => [⟨v1, (oL pInt) r.2, some 0⟩])) (Rp := (fun (r : Int × (List Int)) => pInt r.1)) (ι := id) (rv := fun (b : ((Unit × Unit) × ((Unit × (Unit × Unit)) × (Int × (List Int))))) => (((x93 * a2) + (b.2.2.1)), b.2.2.2)) (fun _ _ _ h => h) (x_kd (x_kd (E := fun (b_ : ((Unit × Unit) × ((Unit × (Unit × Unit)) × (Int × (List Int))))) => pInt ((x93 * a2) + (b_.2.2.1))) (x_add (x_kd (E := fun (b_ : (Unit × Unit)) => pInt (x93 * a2)) (x_mul (x_var (p := pInt x93) 2) (fun _ => x_var (p := pInt a2) 1))) (fun _ => x_kd (E := fun (b_ : ((Unit × (Unit × Unit)) × (Int × (List Int)))) => pInt b_.2.1) (x_OF_f (kk := 1) (E1 := (oL pInt)) (E2 := pInt) (s1 := fun (_ : Unit) (_ : (Unit × Unit)) => b96.1.2.2) (v1 := v1) k_l_next (hr.mono (by decide)) g_l_next F_l_next.kp b_l_next 0 (x_var (p := pV v1) 0) (fun _ => x_kd (E := fun (b_ : (Unit × Unit)) => pInt ((10 : Int) ^ (9 : Int).toNat)) (x_pow (x_int (i := 10)) (fun _ => x_int (i := 9)) (fun _ _ => by decide))) (fun _ _ => rfl)))))) (fun _ => List.Sublist.refl _))))) (by unfold M_l_number; rfl)
end
end My
end
section
set_option maxHeartbeats 4000000
set_option synthInstance.maxSize 2000
namespace My
open PySem PySem.Spec PyProof.Rows L2 L3
section
variable {P : Program} {w : World} {K : PySem.W.Frag} {mg : Str → Option Value} {base : Heap}
theorem sc_l_drawn_side : FnScope ["_law_stream_here", "_law_scale", "_law_value", "_law_side", "_law_k"] ["_law_stream_here"] (defScope (top 14)) := ⟨rfl, rfl, rfl, by decide +kernel, rfl, by decide +kernel, by decide +kernel⟩
theorem ok_l_drawn_side {f : Addr} {fd : FuncData} (C : Ev P K mg) (FD : FnP K "_law_drawn_side" (top 14) f fd)   : FnOk P w K mg base CX0 2 f fd ["_law_stream_here"] (Sp_O_o (oL pInt) M_l_drawn_side (oL pInt)) := by
  have m_range := C.m_range
  obtain ⟨f_l_next, fd_l_next, F_l_next, g_l_next⟩ := C.f_l_next
  have k_l_next := ok_l_next (P := P) (w := w) (base := base) C F_l_next
  have b_l_next : Binds K fd_l_next ["_law_stream_here", "_law_size"] [] := F_l_next.bindsN fun _ _ _ _ _ _ us hl => match us, hl with | [_, _], _ => rfl
  refine fn_O_o FD sc_l_drawn_side rfl fun cdv A outer s H E hr v1 G1 a1 => ?_
  exact s_is (s_T (T := (M_l_next a1 (6 : Int)).bind fun r98 => (atI ([(1 : Int), (1 : Int), (1 : Int), (7 : Int), ((10 : Int) ^ (9 : Int).toNat), ((10 : Int) ^ (10 : Int).toNat)]) (r98.1)).bind fun x99 => (some (x99 : Int)).bind fun x100 => (M_l_next (r98.2) (9 : Int)).bind fun r102 => (some (((r102.1) - (4 : Int)) : Int)).bind fun x103 => (some ([] : List Int)).bind fun x105 => (M_l_next (r102.2) (5 : Int)).bind fun r109 => grd (rg (r109.1) = true) ((forS (rngL 0 (r109.1).toNat) ((x103, x105, r109.2) : Int × (List Int) × (List Int)) fun x112 s111 => grd ((sm (s111.1) || sm x100) = true) (grd ((s111.2.1).length < sizeLine) ((M_l_next (s111.2.2) (3 : Int)).bind fun r116 => (some ((((s111.1) + (1 : Int)) + (r116.1)) : Int)).bind fun x117 => some (x117, ((s111.2.1) ++ [((s111.1) * x100)]), r116.2)))).bind fun s113 => some (s113.2.1, s113.2.2))) (s_let (i := 1) pInt sc_l_drawn_side.nd (x_kd (E := fun (b_ : (((Unit × (Unit × (Unit × (Unit × ((Unit × Unit) × ((Unit × Unit) × Unit)))))) × ((Unit × Unit) × (Int × (List Int)))) × Int)) => pInt b_.2) (x_ixL (Ee := pInt) (x_kd (E := fun (b_ : (Unit × (Unit × (Unit × (Unit × ((Unit × Unit) × ((Unit × Unit) × Unit))))))) => (pL pInt) ([(1 : Int), (1 : Int), (1 : Int), (7 : Int), ((10 : Int) ^ (9 : Int).toNat), ((10 : Int) ^ (10 : Int).toNat)])) (x_frz (o_kd (E := fun (b_ : (Unit × (Unit × (Unit × (Unit × ((Unit × Unit) × ((Unit × Unit) × Unit))))))) => (oL pInt) ([(1 : Int), (1 : Int), (1 : Int), (7 : Int), ((10 : Int) ^ (9 : Int).toNat), ((10 : Int) ^ (10 : Int).toNat)])) (x_disp pInt (fun _ => [_, _, _, _, _, _]) (a_cons (x_int (i := 1)) (fun _ => a_cons (x_int (i := 1)) (fun _ => a_cons (x_int (i := 1)) (fun _ => a_cons (x_int (i := 7)) (fun _ => a_cons (x_kd (E := fun (b_ : (Unit × Unit)) => pInt ((10 : Int) ^ (9 : Int).toNat)) (x_pow (x_int (i := 10)) (fun _ => x_int (i := 9)) (fun _ _ => by decide))) (fun _ => a_cons (x_kd (E := fun (b_ : (Unit × Unit)) => pInt ((10 : Int) ^ (10 : Int).toNat)) (x_pow (x_int (i := 10)) (fun _ => x_int (i := 10)) (fun _ _ => by decide))) (fun _ => a_nil))))))) (fun _ => rfl) (fun _ => by simp))))) (fun _ => x_kd (E := fun (b_ : ((Unit × Unit) × (Int × (List Int)))) => pInt b_.2.1) (x_OF_f (kk := 1) (E1 := (oL pInt)) (E2 := pInt) (s1 := fun (_ : Unit) (_ : Unit) => a1) (v1 := v1) k_l_next (hr.mono (by decide)) g_l_next F_l_next.kp b_l_next 0 (x_var (p := pV v1) 0) (fun _ => x_int (i := 6)) (fun _ _ => rfl))) (fun _ _ => rdF))) fun (b101 : (((Unit × (Unit × (Unit × (Unit × ((Unit × Unit) × ((Unit × Unit) × Unit)))))) × ((Unit × Unit) × (Int × (List Int)))) × Int)) x100 => s_T (T := (M_l_next (b101.1.2.2.2) (9 : Int)).bind fun r102 => (some (((r102.1) - (4 : Int)) : Int)).bind fun x103 => (some ([] : List Int)).bind fun x105 => (M_l_next (r102.2) (5 : Int)).bind fun r109 => grd (rg (r109.1) = true) ((forS (rngL 0 (r109.1).toNat) ((x103, x105, r109.2) : Int × (List Int) × (List Int)) fun x112 s111 => grd ((sm (s111.1) || sm x100) = true) (grd ((s111.2.1).length < sizeLine) ((M_l_next (s111.2.2) (3 : Int)).bind fun r116 => (some ((((s111.1) + (1 : Int)) + (r116.1)) : Int)).bind fun x117 => some (x117, ((s111.2.1) ++ [((s111.1) * x100)]), r116.2)))).bind fun s113 => some (s113.2.1, s113.2.2))) (s_let (i := 2) pInt sc_l_drawn_side.nd (x_kd (E := fun (b_ : (((Unit × Unit) × (Int × (List Int))) × Unit)) => pInt ((b_.1.2.1) - (4 : Int))) (x_sub (x_kd (E := fun (b_ : ((Unit × Unit) × (Int × (List Int)))) => pInt b_.2.1) (x_OF_f (kk := 1) (E1 := (oL pInt)) (E2 := pInt) (s1 := fun (_ : Unit) (_ : Unit) => b101.1.2.2.2) (v1 := v1) k_l_next (hr.mono (by decide)) g_l_next F_l_next.kp b_l_next 0 (x_var (p := pV v1) 0) (fun _ => x_int (i := 9)) (fun _ _ => rfl))) (fun _ => x_int (i := 4)))) fun (b104 : (((Unit × Unit) × (Int × (List Int))) × Unit)) x103 => s_T (T := (some ([] : List Int)).bind fun x105 => (M_l_next (b104.1.2.2) (5 : Int)).bind fun r109 => grd (rg (r109.1) = true) ((forS (rngL 0 (r109.1).toNat) ((x103, x105, r109.2) : Int × (List Int) × (List Int)) fun x112 s111 => grd ((sm (s111.1) || sm x100) = true) (grd ((s111.2.1).length < sizeLine) ((M_l_next (s111.2.2) (3 : Int)).bind fun r116 => (some ((((s111.1) + (1 : Int)) + (r116.1)) : Int)).bind fun x117 => some (x117, ((s111.2.1) ++ [((s111.1) * x100)]), r116.2)))).bind fun s113 => some (s113.2.1, s113.2.2))) (s_letO (i := 3) (oL pInt) sc_l_drawn_side.nd (o_kd (E := fun (b_ : Unit) => (oL pInt) ([])) (x_nil pInt)) fun (b106 : Unit) x105 v108 => s_T (T := (M_l_next (b104.1.2.2) (5 : Int)).bind fun r109 => grd (rg (r109.1) = true) ((forS (rngL 0 (r109.1).toNat) ((x103, x105, r109.2) : Int × (List Int) × (List Int)) fun x112 s111 => grd ((sm (s111.1) || sm x100) = true) (grd ((s111.2.1).length < sizeLine) ((M_l_next (s111.2.2) (3 : Int)).bind fun r116 => (some ((((s111.1) + (1 : Int)) + (r116.1)) : Int)).bind fun x117 => some (x117, ((s111.2.1) ++ [((s111.1) * x100)]), r116.2)))).bind fun s113 => some (s113.2.1, s113.2.2))) (s_forS PassesOwn.never (fun (b_ : ((Unit × Unit) × (Int × (List Int)))) (s_ : Int × (List Int) × (List Int)) => ([some (pV v1), some (pInt x100), some (pInt s_.1), some (pV v108), none], [⟨v108, (oL pInt) s_.2.1, none⟩, ⟨v1, (oL pInt) s_.2.2, some 0⟩])) (fun (b_ : ((Unit × Unit) × (Int × (List Int)))) => (x103, x105, b_.2.2)) (i_rng1 m_range (x_kd (E := fun (b_ : ((Unit × Unit) × (Int × (List Int)))) => pInt b_.2.1) (x_OF_f (kk := 1) (E1 := (oL pInt)) (E2 := pInt) (s1 := fun (_ : Unit) (_ : Unit) => b104.1.2.2) (v1 := v1) k_l_next (hr.mono (by decide)) g_l_next F_l_next.kp b_l_next 1 (x_var (p := pV v1) 0) (fun _ => x_int (i := 5)) (fun _ _ => rfl)))) (pg_name (i := 4) sc_l_drawn_side.nd rfl (by first | exact .inl rfl | exact .inr rfl)) (tg_name 4) (fun _ => ⟨rfl, rfl, rfl, rfl, trivial⟩) (fun _ => List.Sublist.refl _) (fun b110 x112 s111 => s_T (T := grd ((sm (s111.1) || sm x100) = true) (grd ((s111.2.1).length < sizeLine) ((M_l_next (s111.2.2) (3 : Int)).bind fun r116 => (some ((((s111.1) + (1 : Int)) + (r116.1)) : Int)).bind fun x117 => some (x117, ((s111.2.1) ++ [((s111.1) * x100)]), r116.2)))) (s_expr (x_app 0 (x_var (p := pV v108) 3) (fun _ => x_kd (E := fun (b_ : (Unit × Unit)) => pInt ((s111.1) * x100)) (x_mul (x_var (p := pInt s111.1) 2) (fun _ => x_var (p := pInt x100) 1))) (fun _ => rfl) (fun _ _ => rfl)) fun (b115 : (Unit × (Unit × Unit))) => s_T (T := (M_l_next (s111.2.2) (3 : Int)).bind fun r116 => (some ((((s111.1) + (1 : Int)) + (r116.1)) : Int)).bind fun x117 => some (x117, ((s111.2.1) ++ [((s111.1) * x100)]), r116.2)) (s_let (i := 2) pInt sc_l_drawn_side.nd (x_kd (E := fun (b_ : ((Unit × Unit) × ((Unit × Unit) × (Int × (List Int))))) => pInt (((s111.1) + (1 : Int)) + (b_.2.2.1))) (x_add (x_kd (E := fun (b_ : (Unit × Unit)) => pInt ((s111.1) + (1 : Int))) (x_add (x_var (p := pInt s111.1) 2) (fun _ => x_int (i := 1)))) (fun _ => x_kd (E := fun (b_ : ((Unit × Unit) × (Int × (List Int)))) => pInt b_.2.1) (x_OF_f (kk := 1) (E1 := (oL pInt)) (E2 := pInt) (s1 := fun (_ : Unit) (_ : Unit) => s111.2.2) (v1 := v1) k_l_next (hr.mono (by decide)) g_l_next F_l_next.kp b_l_next 1 (x_var (p := pV v1) 0) (fun _ => x_int (i := 3)) (fun _ _ => rfl))))) fun (b118 : ((Unit × Unit) × ((Unit × Unit) × (Int × (List Int))))) x117 => s_end (x117, ((s111.2.1) ++ [((s111.1) * x100)]), b118.2.2.2) rfl ⟨rfl, rfl, rfl, rfl, trivial⟩ (List.Sublist.refl _)))) fun b110 s113 => s_T (T := some (s113.2.1, s113.2.2)) (s_retV 0 (P := (fun (r : (List Int) × (List Int)) => [⟨v1, (oL pInt) r.2, some 0⟩])) (Ro := (fun (r : (List Int) × (List Int)) => (oL pInt) r.1)) (ι := id) (rv := fun _ => (s113.2.1, s113.2.2)) (fun _ _ _ h => h) (x_var (p := pV v108) 3) (fun _ => rfl) (fun _ => List.Sublist.refl _))))))) (by unfold M_l_drawn_side; rfl)
end
end My
end
section
set_option maxHeartbeats 4000000
set_option synthInstance.maxSize 2000
namespace My
open PySem PySem.Spec PyProof.Rows L2 L3
section
variable {P : Program} {w : World} {K : PySem.W.Frag} {mg : Str → Option Value} {base : Heap}
theorem sc_l_drawn_sides : FnScope ["_law_stream_here", "_law_sides", "_law_k", "_law_name"] ["_law_stream_here"] (defScope (top 15)) := ⟨rfl, rfl, rfl, by decide +kernel, rfl, by decide +kernel, by decide +kernel⟩
theorem ok_l_drawn_sides {f : Addr} {fd : FuncData} (C : Ev P K mg) (FD : FnP K "_law_drawn_sides" (top 15) f fd)   : FnOk P w K mg base CX0 3 f fd ["_law_stream_here"] (Sp_O_o (oL pInt) M_l_drawn_sides (oM (κ := Str) (pL pInt))) := by
  have m_range := C.m_range
  obtain ⟨f_l_next, fd_l_next, F_l_next, g_l_next⟩ := C.f_l_next
  have k_l_next := ok_l_next (P := P) (w := w) (base := base) C F_l_next
  have b_l_next : Binds K fd_l_next ["_law_stream_here", "_law_size"] [] := F_l_next.bindsN fun _ _ _ _ _ _ us hl => match us, hl with | [_, _], _ => rfl
  obtain ⟨f_l_word, fd_l_word, F_l_word, g_l_word⟩ := C.f_l_word
  have k_l_word := ok_l_word (P := P) (w := w) (base := base) C F_l_word
  have b_l_word : Binds K fd_l_word ["_law_stream_here"] [] := F_l_word.bindsN fun _ _ _ _ _ _ us hl => match us, hl with | [_], _ => rfl
  obtain ⟨f_l_drawn_side, fd_l_drawn_side, F_l_drawn_side, g_l_drawn_side⟩ := C.f_l_drawn_side
  have k_l_drawn_side := ok_l_drawn_side (P := P) (w := w) (base := base) C F_l_drawn_side
  have b_l_drawn_side : Binds K fd_l_drawn_side ["_law_stream_here"] [] := F_l_drawn_side.bindsN fun _ _ _ _ _ _ us hl => match us, hl with | [_], _ => rfl
  refine fn_O_o FD sc_l_drawn_sides rfl fun cdv A outer s H E hr v1 G1 a1 => ?_
  exact s_is (s_T (T := (some (([] : List (Str × List Int)) : List (Str × List Int))).bind fun x119 => (M_l_next a1 (6 : Int)).bind fun r123 => grd (rg (r123.1) = true) ((forS (rngL 0 (r123.1).toNat) ((x119, r123.2) : (List (Str × List Int)) × (List Int)) fun x126 s125 => (M_l_word (s125.2)).bind fun r129 => (some (r129.1 : Str)).bind fun x130 => (M_l_drawn_side (r129.2)).bind fun r132 => grd ((s125.1).length < sizeLine) (some ((dput (s125.1) x130 (r132.1)), r132.2))).bind fun s127 => some (s127.1, s127.2))) (s_letO (i := 1) (oM (κ := Str) (pL pInt)) sc_l_drawn_sides.nd (o_kd (E := fun (b_ : Unit) => (oM (κ := Str) (pL pInt)) ([] : List (Str × List Int))) (x_dict0 (κ := Str) (pL pInt))) fun (b120 : Unit) x119 v122 => s_T (T := (M_l_next a1 (6 : Int)).bind fun r123 => grd (rg (r123.1) = true) ((forS (rngL 0 (r123.1).toNat) ((x119, r123.2) : (List (Str × List Int)) × (List Int)) fun x126 s125 => (M_l_word (s125.2)).bind fun r129 => (some (r129.1 : Str)).bind fun x130 => (M_l_drawn_side (r129.2)).bind fun r132 => grd ((s125.1).length < sizeLine) (some ((dput (s125.1) x130 (r132.1)), r132.2))).bind fun s127 => some (s127.1, s127.2))) (s_forS PassesOwn.never (fun (b_ : ((Unit × Unit) × (Int × (List Int)))) (s_ : (List (Str × List Int)) × (List Int)) => ([some (pV v1), some (pV v122), none, none], [⟨v122, (oM (κ := Str) (pL pInt)) s_.1, none⟩, ⟨v1, (oL pInt) s_.2, some 0⟩])) (fun (b_ : ((Unit × Unit) × (Int × (List Int)))) => (x119, b_.2.2)) (i_rng1 m_range (x_kd (E := fun (b_ : ((Unit × Unit) × (Int × (List Int)))) => pInt b_.2.1) (x_OF_f (kk := 1) (E1 := (oL pInt)) (E2 := pInt) (s1 := fun (_ : Unit) (_ : Unit) => a1) (v1 := v1) k_l_next (hr.mono (by decide)) g_l_next F_l_next.kp b_l_next 1 (x_var (p := pV v1) 0) (fun _ => x_int (i := 6)) (fun _ _ => rfl)))) (pg_name (i := 2) sc_l_drawn_sides.nd rfl (by first | exact .inl rfl | exact .inr rfl)) (tg_name 2) (fun _ => ⟨rfl, rfl, trivial⟩) (fun _ => List.Sublist.refl _) (fun b124 x126 s125 => s_T (T := (M_l_word (s125.2)).bind fun r129 => (some (r129.1 : Str)).bind fun x130 => (M_l_drawn_side (r129.2)).bind fun r132 => grd ((s125.1).length < sizeLine) (some ((dput (s125.1) x130 (r132.1)), r132.2))) (s_let (i := 3) pStr sc_l_drawn_sides.nd (x_kd (E := fun (b_ : (Unit × (Str × (List Int)))) => pStr b_.2.1) (x_O_f (kk := 2) (E1 := (oL pInt)) (s1 := fun (_ : Unit) => s125.2) (v1 := v1) k_l_word (hr.mono (by decide)) g_l_word F_l_word.kp b_l_word 1 (x_var (p := pV v1) 0) (fun _ => rfl))) fun (b131 : (Unit × (Str × (List Int)))) x130 => s_T (T := (M_l_drawn_side (b131.2.2)).bind fun r132 => grd ((s125.1).length < sizeLine) (some ((dput (s125.1) x130 (r132.1)), r132.2))) (s_dput (κ := Str) (Ee := (pL pInt)) 0 hr.units (x_kd (E := fun (b_ : (Unit × ((List Int) × (List Int)))) => (pL pInt) b_.2.1) (x_frz (o_kd (E := fun (b_ : (Unit × ((List Int) × (List Int)))) => (oL pInt) b_.2.1) (x_O_o (kk := 2) (E1 := (oL pInt)) (s1 := fun (_ : Unit) => b131.2.2) (v1 := v1) k_l_drawn_side (hr.mono (by decide)) g_l_drawn_side F_l_drawn_side.kp b_l_drawn_side 1 (x_var (p := pV v1) 0) (fun _ => rfl))))) (fun _ => x_var (p := pV v122) 1) (fun _ _ => x_var (p := pStr x130) 3) (fun _ _ _ => rfl) fun (b133 : (((Unit × ((List Int) × (List Int))) × Unit) × Unit)) => s_end ((dput (s125.1) x130 (b133.1.1.2.1)), b133.1.1.2.2) rfl ⟨rfl, rfl, trivial⟩ (List.Sublist.refl _)))) fun b124 s127 => s_T (T := some (s127.1, s127.2)) (s_retV 0 (P := (fun (r : (List (Str × List Int)) × (List Int)) => [⟨v1, (oL pInt) r.2, some 0⟩])) (Ro := (fun (r : (List (Str × List Int)) × (List Int)) => (oM (κ := Str) (pL pInt)) r.1)) (ι := id) (rv := fun _ => (s127.1, s127.2)) (fun _ _ _ h => h) (x_var (p := pV v122) 1) (fun _ => rfl) (fun _ => List.Sublist.refl _))))) (by unfold M_l_drawn_sides; rfl)
end
end My
end
section
set_option maxHeartbeats 4000000
set_option synthInstance.maxSize 2000
namespace My
open PySem PySem.Spec PyProof.Rows L2 L3
section
variable {P : Program} {w : World} {K : PySem.W.Frag} {mg : Str → Option Value} {base : Heap}
theorem sc_l_drawn_certificate : FnScope ["_law_stream_here", "_law_word_here", "_law_count", "_law_k"] ["_law_stream_here"] (defScope (top 16)) := ⟨rfl, rfl, rfl, by decide +kernel, rfl, by decide +kernel, by decide +kernel⟩
theorem ok_l_drawn_certificate {f : Addr} {fd : FuncData} (C : Ev P K mg) (FD : FnP K "_law_drawn_certificate" (top 16) f fd)   : FnOk P w K mg base CX0 3 f fd ["_law_stream_here"] (Sp_O_f (oL pInt) M_l_drawn_certificate (pT2 pStr (pSm pStr (pL (pSm pInt (pSm pStr (pL pInt))))))) := by
  have m_range := C.m_range
  obtain ⟨f_l_next, fd_l_next, F_l_next, g_l_next⟩ := C.f_l_next
  have k_l_next := ok_l_next (P := P) (w := w) (base := base) C F_l_next
  have b_l_next : Binds K fd_l_next ["_law_stream_here", "_law_size"] [] := F_l_next.bindsN fun _ _ _ _ _ _ us hl => match us, hl with | [_, _], _ => rfl
  obtain ⟨f_l_word, fd_l_word, F_l_word, g_l_word⟩ := C.f_l_word
  have k_l_word := ok_l_word (P := P) (w := w) (base := base) C F_l_word
  have b_l_word : Binds K fd_l_word ["_law_stream_here"] [] := F_l_word.bindsN fun _ _ _ _ _ _ us hl => match us, hl with | [_], _ => rfl
  obtain ⟨f_l_drawn_side, fd_l_drawn_side, F_l_drawn_side, g_l_drawn_side⟩ := C.f_l_drawn_side
  have k_l_drawn_side := ok_l_drawn_side (P := P) (w := w) (base := base) C F_l_drawn_side
  have b_l_drawn_side : Binds K fd_l_drawn_side ["_law_stream_here"] [] := F_l_drawn_side.bindsN fun _ _ _ _ _ _ us hl => match us, hl with | [_], _ => rfl
  obtain ⟨f_l_number, fd_l_number, F_l_number, g_l_number⟩ := C.f_l_number
  have k_l_number := ok_l_number (P := P) (w := w) (base := base) C F_l_number
  have b_l_number : Binds K fd_l_number ["_law_stream_here", "_law_scale"] [] := F_l_number.bindsN fun _ _ _ _ _ _ us hl => match us, hl with | [_, _], _ => rfl
  refine fn_O_f FD sc_l_drawn_certificate rfl fun cdv A outer s H E hr v1 G1 a1 => ?_
  exact s_is (s_T (T := (M_l_next a1 (7 : Int)).bind fun r134 => (atI ([("empty" : Str), ("blame" : Str), ("crowd" : Str), ("full" : Str), ("climb" : Str), ("want" : Str), ("layers" : Str)]) (r134.1)).bind fun x135 => (some (x135 : Str)).bind fun x136 => if (decide (x136 = ("empty" : Str))) = true then (M_l_word (r134.2)).bind fun r139 => some ((x136, (.inl (r139.1) : (Str ⊕ (List (Int ⊕ (Str ⊕ (List Int))))))), r139.2) else (M_l_next (r134.2) (6 : Int)).bind fun r140 => (some (r140.1 : Int)).bind fun x141 => if ((decide (x136 = ("blame" : Str))) || (decide (x136 = ("crowd" : Str)))) = true then grd (rg x141 = true) ((compM (rngL 0 x141.toNat) (r140.2) (fun x145 s147 => if true = true then (M_l_word s147).bind fun r149 => some (some (.inr (.inl (r149.1) : (Str ⊕ (List Int))) : (Int ⊕ (Str ⊕ (List Int)))), r149.2) else some (none, s147))).bind fun r150 => some ((x136, (.inr (r150.1) : (Str ⊕ (List (Int ⊕ (Str ⊕ (List Int))))))), r150.2)) else if (decide (x136 = ("layers" : Str))) = true then grd (rg ((1 : Int) + x141) = true) ((compM (rngL 0 ((1 : Int) + x141).toNat) (r140.2) (fun x153 s155 => if true = true then (M_l_drawn_side s155).bind fun r157 => some (some (.inr (.inr (r157.1) : (Str ⊕ (List Int))) : (Int ⊕ (Str ⊕ (List Int)))), r157.2) else some (none, s155))).bind fun r158 => some ((x136, (.inr (r158.1) : (Str ⊕ (List (Int ⊕ (Str ⊕ (List Int))))))), r158.2)) else grd (rg x141 = true) ((compM (rngL 0 x141.toNat) (r140.2) (fun x160 s162 => if true = true then (M_l_number s162 ((10 : Int) ^ (29 : Int).toNat)).bind fun r164 => some (some (.inl (r164.1) : (Int ⊕ (Str ⊕ (List Int)))), r164.2) else some (none, s162))).bind fun r165 => some ((x136, (.inr (r165.1) : (Str ⊕ (List (Int ⊕ (Str ⊕ (List Int))))))), r165.2))) (s_let (i := 1) pStr sc_l_drawn_certificate.nd (x_kd (E := fun (b_ : (((Unit × (Unit × (Unit × (Unit × (Unit × (Unit × (Unit × Unit))))))) × ((Unit × Unit) × (Int × (List Int)))) × Str)) => pStr b_.2) (x_ixL (Ee := pStr) (x_kd (E := fun (b_ : (Unit × (Unit × (Unit × (Unit × (Unit × (Unit × (Unit × Unit)))))))) => (pL pStr) ([("empty" : Str), ("blame" : Str), ("crowd" : Str), ("full" : Str), ("climb" : Str), ("want" : Str), ("layers" : Str)])) (x_frz (o_kd (E := fun (b_ : (Unit × (Unit × (Unit × (Unit × (Unit × (Unit × (Unit × Unit)))))))) => (oL pStr) ([("empty" : Str), ("blame" : Str), ("crowd" : Str), ("full" : Str), ("climb" : Str), ("want" : Str), ("layers" : Str)])) (x_disp pStr (fun _ => [_, _, _, _, _, _, _]) (a_cons x_str (fun _ => a_cons x_str (fun _ => a_cons x_str (fun _ => a_cons x_str (fun _ => a_cons x_str (fun _ => a_cons x_str (fun _ => a_cons x_str (fun _ => a_nil)))))))) (fun _ => rfl) (fun _ => by simp))))) (fun _ => x_kd (E := fun (b_ : ((Unit × Unit) × (Int × (List Int)))) => pInt b_.2.1) (x_OF_f (kk := 1) (E1 := (oL pInt)) (E2 := pInt) (s1 := fun (_ : Unit) (_ : Unit) => a1) (v1 := v1) k_l_next (hr.mono (by decide)) g_l_next F_l_next.kp b_l_next 0 (x_var (p := pV v1) 0) (fun _ => x_int (i := 7)) (fun _ _ => rfl))) (fun _ _ => rdF))) fun (b137 : (((Unit × (Unit × (Unit × (Unit × (Unit × (Unit × (Unit × Unit))))))) × ((Unit × Unit) × (Int × (List Int)))) × Str)) x136 => s_T (T := if (decide (x136 = ("empty" : Str))) = true then (M_l_word (b137.1.2.2.2)).bind fun r139 => some ((x136, (.inl (r139.1) : (Str ⊕ (List (Int ⊕ (Str ⊕ (List Int))))))), r139.2) else (M_l_next (b137.1.2.2.2) (6 : Int)).bind fun r140 => (some (r140.1 : Int)).bind fun x141 => if ((decide (x136 = ("blame" : Str))) || (decide (x136 = ("crowd" : Str)))) = true then grd (rg x141 = true) ((compM (rngL 0 x141.toNat) (r140.2) (fun x145 s147 => if true = true then (M_l_word s147).bind fun r149 => some (some (.inr (.inl (r149.1) : (Str ⊕ (List Int))) : (Int ⊕ (Str ⊕ (List Int)))), r149.2) else some (none, s147))).bind fun r150 => some ((x136, (.inr (r150.1) : (Str ⊕ (List (Int ⊕ (Str ⊕ (List Int))))))), r150.2)) else if (decide (x136 = ("layers" : Str))) = true then grd (rg ((1 : Int) + x141) = true) ((compM (rngL 0 ((1 : Int) + x141).toNat) (r140.2) (fun x153 s155 => if true = true then (M_l_drawn_side s155).bind fun r157 => some (some (.inr (.inr (r157.1) : (Str ⊕ (List Int))) : (Int ⊕ (Str ⊕ (List Int)))), r157.2) else some (none, s155))).bind fun r158 => some ((x136, (.inr (r158.1) : (Str ⊕ (List (Int ⊕ (Str ⊕ (List Int))))))), r158.2)) else grd (rg x141 = true) ((compM (rngL 0 x141.toNat) (r140.2) (fun x160 s162 => if true = true then (M_l_number s162 ((10 : Int) ^ (29 : Int).toNat)).bind fun r164 => some (some (.inl (r164.1) : (Int ⊕ (Str ⊕ (List Int)))), r164.2) else some (none, s162))).bind fun r165 => some ((x136, (.inr (r165.1) : (Str ⊕ (List (Int ⊕ (Str ⊕ (List Int))))))), r165.2))) (s_ifT (ins_F _) (t_kd (c := fun (b_ : (Unit × Unit)) => (decide (x136 = ("empty" : Str)))) (t_eqS (x_var (p := pStr x136) 1) (fun _ => x_str))) (fun (b138 : (Unit × Unit)) => s_T (T := (M_l_word (b137.1.2.2.2)).bind fun r139 => some ((x136, (.inl (r139.1) : (Str ⊕ (List (Int ⊕ (Str ⊕ (List Int))))))), r139.2)) (s_ret (P := (fun (r : (Str × (Str ⊕ (List (Int ⊕ (Str ⊕ (List Int)))))) × (List Int)) => [⟨v1, (oL pInt) r.2, some 0⟩])) (Rp := (fun (r : (Str × (Str ⊕ (List (Int ⊕ (Str ⊕ (List Int)))))) × (List Int)) => (pT2 pStr (pSm pStr (pL (pSm pInt (pSm pStr (pL pInt)))))) r.1)) (ι := id) (rv := fun (b : (Unit × ((Unit × (Str × (List Int))) × Unit))) => ((x136, (.inl (b.2.1.2.1) : (Str ⊕ (List (Int ⊕ (Str ⊕ (List Int))))))), b.2.1.2.2)) (fun _ _ _ h => h) (x_kd (x_kd (E := fun (b_ : (Unit × ((Unit × (Str × (List Int))) × Unit))) => (pT2 pStr (pSm pStr (pL (pSm pInt (pSm pStr (pL pInt)))))) (x136, (.inl (b_.2.1.2.1) : (Str ⊕ (List (Int ⊕ (Str ⊕ (List Int)))))))) (x_tp2 pStr (pSm pStr (pL (pSm pInt (pSm pStr (pL pInt))))) (fun (b : (Unit × ((Unit × (Str × (List Int))) × Unit))) => x136) (fun (b : (Unit × ((Unit × (Str × (List Int))) × Unit))) => (.inl (b.2.1.2.1) : (Str ⊕ (List (Int ⊕ (Str ⊕ (List Int))))))) (pa_kd (a_cons (x_var (p := pStr x136) 1) (fun _ => a_cons (co_inl (E := pStr) (G := (pL (pSm pInt (pSm pStr (pL pInt))))) (x_kd (E := fun (b_ : (Unit × (Str × (List Int)))) => pStr b_.2.1) (x_O_f (kk := 2) (E1 := (oL pInt)) (s1 := fun (_ : Unit) => b137.1.2.2.2) (v1 := v1) k_l_word (hr.mono (by decide)) g_l_word F_l_word.kp b_l_word 0 (x_var (p := pV v1) 0) (fun _ => rfl)))) (fun _ => a_nil))))))) (fun _ => List.Sublist.refl _))) fun (b138 : (Unit × Unit)) => s_T (T := (M_l_next (b137.1.2.2.2) (6 : Int)).bind fun r140 => (some (r140.1 : Int)).bind fun x141 => if ((decide (x136 = ("blame" : Str))) || (decide (x136 = ("crowd" : Str)))) = true then grd (rg x141 = true) ((compM (rngL 0 x141.toNat) (r140.2) (fun x145 s147 => if true = true then (M_l_word s147).bind fun r149 => some (some (.inr (.inl (r149.1) : (Str ⊕ (List Int))) : (Int ⊕ (Str ⊕ (List Int)))), r149.2) else some (none, s147))).bind fun r150 => some ((x136, (.inr (r150.1) : (Str ⊕ (List (Int ⊕ (Str ⊕ (List Int))))))), r150.2)) else if (decide (x136 = ("layers" : Str))) = true then grd (rg ((1 : Int) + x141) = true) ((compM (rngL 0 ((1 : Int) + x141).toNat) (r140.2) (fun x153 s155 => if true = true then (M_l_drawn_side s155).bind fun r157 => some (some (.inr (.inr (r157.1) : (Str ⊕ (List Int))) : (Int ⊕ (Str ⊕ (List Int)))), r157.2) else some (none, s155))).bind fun r158 => some ((x136, (.inr (r158.1) : (Str ⊕ (List (Int ⊕ (Str ⊕ (List Int))))))), r158.2)) else grd (rg x141 = true) ((compM (rngL 0 x141.toNat) (r140.2) (fun x160 s162 => if true = true then (M_l_number s162 ((10 : Int) ^ (29 : Int).toNat)).bind fun r164 => some (some (.inl (r164.1) : (Int ⊕ (Str ⊕ (List Int)))), r164.2) else some (none, s162))).bind fun r165 => some ((x136, (.inr (r165.1) : (Str ⊕ (List (Int ⊕ (Str ⊕ (List Int))))))), r165.2))) (s_let (i := 2) pInt sc_l_drawn_certificate.nd (x_kd (E := fun (b_ : ((Unit × Unit) × (Int × (List Int)))) => pInt b_.2.1) (x_OF_f (kk := 1) (E1 := (oL pInt)) (E2 := pInt) (s1 := fun (_ : Unit) (_ : Unit) => b137.1.2.2.2) (v1 := v1) k_l_next (hr.mono (by decide)) g_l_next F_l_next.kp b_l_next 0 (x_var (p := pV v1) 0) (fun _ => x_int (i := 6)) (fun _ _ => rfl))) fun (b142 : ((Unit × Unit) × (Int × (List Int)))) x141 => s_T (T := if ((decide (x136 = ("blame" : Str))) || (decide (x136 = ("crowd" : Str)))) = true then grd (rg x141 = true) ((compM (rngL 0 x141.toNat) (b142.2.2) (fun x145 s147 => if true = true then (M_l_word s147).bind fun r149 => some (some (.inr (.inl (r149.1) : (Str ⊕ (List Int))) : (Int ⊕ (Str ⊕ (List Int)))), r149.2) else some (none, s147))).bind fun r150 => some ((x136, (.inr (r150.1) : (Str ⊕ (List (Int ⊕ (Str ⊕ (List Int))))))), r150.2)) else if (decide (x136 = ("layers" : Str))) = true then grd (rg ((1 : Int) + x141) = true) ((compM (rngL 0 ((1 : Int) + x141).toNat) (b142.2.2) (fun x153 s155 => if true = true then (M_l_drawn_side s155).bind fun r157 => some (some (.inr (.inr (r157.1) : (Str ⊕ (List Int))) : (Int ⊕ (Str ⊕ (List Int)))), r157.2) else some (none, s155))).bind fun r158 => some ((x136, (.inr (r158.1) : (Str ⊕ (List (Int ⊕ (Str ⊕ (List Int))))))), r158.2)) else grd (rg x141 = true) ((compM (rngL 0 x141.toNat) (b142.2.2) (fun x160 s162 => if true = true then (M_l_number s162 ((10 : Int) ^ (29 : Int).toNat)).bind fun r164 => some (some (.inl (r164.1) : (Int ⊕ (Str ⊕ (List Int)))), r164.2) else some (none, s162))).bind fun r165 => some ((x136, (.inr (r165.1) : (Str ⊕ (List (Int ⊕ (Str ⊕ (List Int))))))), r165.2))) (s_ifT (ins_F _) (t_kd (c := fun (b_ : Unit) => ((decide (x136 = ("blame" : Str))) || (decide (x136 = ("crowd" : Str))))) (PW.pt (w_or (t_totV (decide (x136 = ("blame" : Str))) ((), ()) (fun _ => rfl) (by exact (t_kd (c := fun (b_ : (Unit × Unit)) => (decide (x136 = ("blame" : Str)))) (t_eqS (y_var (p := pStr x136) 1) (fun _ => y_str))))) (w_or1 (t_totV (decide (x136 = ("crowd" : Str))) ((), ()) (fun _ => rfl) (by exact (t_kd (c := fun (b_ : (Unit × Unit)) => (decide (x136 = ("crowd" : Str)))) (t_eqS (y_var (p := pStr x136) 1) (fun _ => y_str))))))))) (fun (b143 : Unit) => s_T (T := grd (rg x141 = true) ((compM (rngL 0 x141.toNat) (b142.2.2) (fun x145 s147 => if true = true then (M_l_word s147).bind fun r149 => some (some (.inr (.inl (r149.1) : (Str ⊕ (List Int))) : (Int ⊕ (Str ⊕ (List Int)))), r149.2) else some (none, s147))).bind fun r150 => some ((x136, (.inr (r150.1) : (Str ⊕ (List (Int ⊕ (Str ⊕ (List Int))))))), r150.2))) (s_ret (P := (fun (r : (Str × (Str ⊕ (List (Int ⊕ (Str ⊕ (List Int)))))) × (List Int)) => [⟨v1, (oL pInt) r.2, some 0⟩])) (Rp := (fun (r : (Str × (Str ⊕ (List (Int ⊕ (Str ⊕ (List Int)))))) × (List Int)) => (pT2 pStr (pSm pStr (pL (pSm pInt (pSm pStr (pL pInt)))))) r.1)) (ι := id) (rv := fun (b : (Unit × ((Unit × ((List (Int ⊕ (Str ⊕ (List Int)))) × (List Int))) × Unit))) => ((x136, (.inr (b.2.1.2.1) : (Str ⊕ (List (Int ⊕ (Str ⊕ (List Int))))))), b.2.1.2.2)) (fun _ _ _ h => h) (x_kd (x_kd (E := fun (b_ : (Unit × ((Unit × ((List (Int ⊕ (Str ⊕ (List Int)))) × (List Int))) × Unit))) => (pT2 pStr (pSm pStr (pL (pSm pInt (pSm pStr (pL pInt)))))) (x136, (.inr (b_.2.1.2.1) : (Str ⊕ (List (Int ⊕ (Str ⊕ (List Int)))))))) (x_tp2 pStr (pSm pStr (pL (pSm pInt (pSm pStr (pL pInt))))) (fun (b : (Unit × ((Unit × ((List (Int ⊕ (Str ⊕ (List Int)))) × (List Int))) × Unit))) => x136) (fun (b : (Unit × ((Unit × ((List (Int ⊕ (Str ⊕ (List Int)))) × (List Int))) × Unit))) => (.inr (b.2.1.2.1) : (Str ⊕ (List (Int ⊕ (Str ⊕ (List Int))))))) (pa_kd (a_cons (x_var (p := pStr x136) 1) (fun _ => a_cons (co_inr (E := pStr) (G := (pL (pSm pInt (pSm pStr (pL pInt))))) (x_kd (E := fun (b_ : (Unit × ((List (Int ⊕ (Str ⊕ (List Int)))) × (List Int)))) => (pL (pSm pInt (pSm pStr (pL pInt)))) b_.2.1) (x_frz (o_kd (E := fun (b_ : (Unit × ((List (Int ⊕ (Str ⊕ (List Int)))) × (List Int)))) => (oL (pSm pInt (pSm pStr (pL pInt)))) b_.2.1) (x_lc (own := [("_law_k", 3)]) (C := fun (b_ : Unit) (s_ : (List Int)) => [⟨v1, (oL pInt) s_, some 0⟩]) (s0 := fun (b_ : Unit) => b142.2.2) (s2 := fun (b_ : Unit) (x_ : Int) (s_ : (List Int)) (c_ : Unit) => s_) (s3 := fun (b_ : Unit) (x_ : Int) (s_ : (List Int)) (c_ : Unit) (d_ : (Unit × (Str × (List Int)))) => d_.2.2) (Ex := pInt) (Ee := (pSm pInt (pSm pStr (pL pInt)))) (δ := (Int ⊕ (Str ⊕ (List Int)))) (y := fun (b_ : Unit) (x_ : Int) (s_ : (List Int)) (c_ : Unit) (d_ : (Unit × (Str × (List Int)))) => (.inr (.inl (d_.2.1) : (Str ⊕ (List Int))) : (Int ⊕ (Str ⊕ (List Int))))) (T2 := fun (b_ : Unit) (x_ : Int) (s_ : (List Int)) (c_ : Unit) => (M_l_word s_).bind fun r149 => some (some (.inr (.inl (r149.1) : (Str ⊕ (List Int))) : (Int ⊕ (Str ⊕ (List Int)))), r149.2)) (c := fun (b_ : Unit) (x_ : Int) (s_ : (List Int)) (c_ : Unit) => true) (f := fun (b_ : Unit) (x_ : Int) (s_ : (List Int)) => if true = true then (M_l_word s_).bind fun r149 => some (some (.inr (.inl (r149.1) : (Str ⊕ (List Int))) : (Int ⊕ (Str ⊕ (List Int)))), r149.2) else some (none, s_)) sc_l_drawn_certificate.nd (i_rng1 m_range (x_var (p := pInt x141) 2)) (blkOk_by (own := [("_law_k", 3)]) (N := ["_law_stream_here", "_law_word_here", "_law_count", "_law_k"]) (sc := (defScope (top 16))) (by decide +kernel)) (fun _ _ _ _ _ => pg_name (i := 3) sc_l_drawn_certificate.nd rfl (by first | exact .inl rfl | exact .inr rfl)) (tw_name 3) (fun _ => rfl) (by exact fun q148 _ _ _ _ _ b144 x145 s147 => pts_T) (by exact fun q148 _ _ _ _ _ b144 x145 s147 _ => x_out (co_inr (E := pInt) (G := (pSm pStr (pL pInt))) (co_inl (E := pStr) (G := (pL pInt)) (x_kd (E := fun (b_ : (Unit × (Str × (List Int)))) => pStr b_.2.1) (x_O_f (kk := 2) (E1 := (oL pInt)) (s1 := fun (_ : Unit) => s147) (v1 := v1) k_l_word (hr.mono (by decide)) g_l_word F_l_word.kp b_l_word 0 (x_var (p := pV v1) 0) (fun _ => rfl))))))))))) (fun _ => a_nil))))))) (fun _ => List.Sublist.refl _))) fun (b143 : Unit) => s_T (T := if (decide (x136 = ("layers" : Str))) = true then grd (rg ((1 : Int) + x141) = true) ((compM (rngL 0 ((1 : Int) + x141).toNat) (b142.2.2) (fun x153 s155 => if true = true then (M_l_drawn_side s155).bind fun r157 => some (some (.inr (.inr (r157.1) : (Str ⊕ (List Int))) : (Int ⊕ (Str ⊕ (List Int)))), r157.2) else some (none, s155))).bind fun r158 => some ((x136, (.inr (r158.1) : (Str ⊕ (List (Int ⊕ (Str ⊕ (List Int))))))), r158.2)) else grd (rg x141 = true) ((compM (rngL 0 x141.toNat) (b142.2.2) (fun x160 s162 => if true = true then (M_l_number s162 ((10 : Int) ^ (29 : Int).toNat)).bind fun r164 => some (some (.inl (r164.1) : (Int ⊕ (Str ⊕ (List Int)))), r164.2) else some (none, s162))).bind fun r165 => some ((x136, (.inr (r165.1) : (Str ⊕ (List (Int ⊕ (Str ⊕ (List Int))))))), r165.2))) (s_ifT (ins_F _) (t_kd (c := fun (b_ : (Unit × Unit)) => (decide (x136 = ("layers" : Str)))) (t_eqS (x_var (p := pStr x136) 1) (fun _ => x_str))) (fun (b151 : (Unit × Unit)) => s_T (T := grd (rg ((1 : Int) + x141) = true) ((compM (rngL 0 ((1 : Int) + x141).toNat) (b142.2.2) (fun x153 s155 => if true = true then (M_l_drawn_side s155).bind fun r157 => some (some (.inr (.inr (r157.1) : (Str ⊕ (List Int))) : (Int ⊕ (Str ⊕ (List Int)))), r157.2) else some (none, s155))).bind fun r158 => some ((x136, (.inr (r158.1) : (Str ⊕ (List (Int ⊕ (Str ⊕ (List Int))))))), r158.2))) (s_ret (P := (fun (r : (Str × (Str ⊕ (List (Int ⊕ (Str ⊕ (List Int)))))) × (List Int)) => [⟨v1, (oL pInt) r.2, some 0⟩])) (Rp := (fun (r : (Str × (Str ⊕ (List (Int ⊕ (Str ⊕ (List Int)))))) × (List Int)) => (pT2 pStr (pSm pStr (pL (pSm pInt (pSm pStr (pL pInt)))))) r.1)) (ι := id) (rv := fun (b : (Unit × (((Unit × Unit) × ((List (Int ⊕ (Str ⊕ (List Int)))) × (List Int))) × Unit))) => ((x136, (.inr (b.2.1.2.1) : (Str ⊕ (List (Int ⊕ (Str ⊕ (List Int))))))), b.2.1.2.2)) (fun _ _ _ h => h) (x_kd (x_kd (E := fun (b_ : (Unit × (((Unit × Unit) × ((List (Int ⊕ (Str ⊕ (List Int)))) × (List Int))) × Unit))) => (pT2 pStr (pSm pStr (pL (pSm pInt (pSm pStr (pL pInt)))))) (x136, (.inr (b_.2.1.2.1) : (Str ⊕ (List (Int ⊕ (Str ⊕ (List Int)))))))) (x_tp2 pStr (pSm pStr (pL (pSm pInt (pSm pStr (pL pInt))))) (fun (b : (Unit × (((Unit × Unit) × ((List (Int ⊕ (Str ⊕ (List Int)))) × (List Int))) × Unit))) => x136) (fun (b : (Unit × (((Unit × Unit) × ((List (Int ⊕ (Str ⊕ (List Int)))) × (List Int))) × Unit))) => (.inr (b.2.1.2.1) : (Str ⊕ (List (Int ⊕ (Str ⊕ (List Int))))))) (pa_kd (a_cons (x_var (p := pStr x136) 1) (fun _ => a_cons (co_inr (E := pStr) (G := (pL (pSm pInt (pSm pStr (pL pInt))))) (x_kd (E := fun (b_ : ((Unit × Unit) × ((List (Int ⊕ (Str ⊕ (List Int)))) × (List Int)))) => (pL (pSm pInt (pSm pStr (pL pInt)))) b_.2.1) (x_frz (o_kd (E := fun (b_ : ((Unit × Unit) × ((List (Int ⊕ (Str ⊕ (List Int)))) × (List Int)))) => (oL (pSm pInt (pSm pStr (pL pInt)))) b_.2.1) (x_lc (own := [("_law_k", 3)]) (C := fun (b_ : (Unit × Unit)) (s_ : (List Int)) => [⟨v1, (oL pInt) s_, some 0⟩]) (s0 := fun (b_ : (Unit × Unit)) => b142.2.2) (s2 := fun (b_ : (Unit × Unit)) (x_ : Int) (s_ : (List Int)) (c_ : Unit) => s_) (s3 := fun (b_ : (Unit × Unit)) (x_ : Int) (s_ : (List Int)) (c_ : Unit) (d_ : (Unit × ((List Int) × (List Int)))) => d_.2.2) (Ex := pInt) (Ee := (pSm pInt (pSm pStr (pL pInt)))) (δ := (Int ⊕ (Str ⊕ (List Int)))) (y := fun (b_ : (Unit × Unit)) (x_ : Int) (s_ : (List Int)) (c_ : Unit) (d_ : (Unit × ((List Int) × (List Int)))) => (.inr (.inr (d_.2.1) : (Str ⊕ (List Int))) : (Int ⊕ (Str ⊕ (List Int))))) (T2 := fun (b_ : (Unit × Unit)) (x_ : Int) (s_ : (List Int)) (c_ : Unit) => (M_l_drawn_side s_).bind fun r157 => some (some (.inr (.inr (r157.1) : (Str ⊕ (List Int))) : (Int ⊕ (Str ⊕ (List Int)))), r157.2)) (c := fun (b_ : (Unit × Unit)) (x_ : Int) (s_ : (List Int)) (c_ : Unit) => true) (f := fun (b_ : (Unit × Unit)) (x_ : Int) (s_ : (List Int)) => if true = true then (M_l_drawn_side s_).bind fun r157 => some (some (.inr (.inr (r157.1) : (Str ⊕ (List Int))) : (Int ⊕ (Str ⊕ (List Int)))), r157.2) else some (none, s_)) sc_l_drawn_certificate.nd (i_rng1 m_range (x_kd (E := fun (b_ : (Unit × Unit)) => pInt ((1 : Int) + x141)) (x_add (x_int (i := 1)) (fun _ => x_var (p := pInt x141) 2)))) (blkOk_by (own := [("_law_k", 3)]) (N := ["_law_stream_here", "_law_word_here", "_law_count", "_law_k"]) (sc := (defScope (top 16))) (by decide +kernel)) (fun _ _ _ _ _ => pg_name (i := 3) sc_l_drawn_certificate.nd rfl (by first | exact .inl rfl | exact .inr rfl)) (tw_name 3) (fun _ => rfl) (by exact fun q156 _ _ _ _ _ b152 x153 s155 => pts_T) (by exact fun q156 _ _ _ _ _ b152 x153 s155 _ => x_out (co_inr (E := pInt) (G := (pSm pStr (pL pInt))) (co_inr (E := pStr) (G := (pL pInt)) (x_kd (E := fun (b_ : (Unit × ((List Int) × (List Int)))) => (pL pInt) b_.2.1) (x_frz (o_kd (E := fun (b_ : (Unit × ((List Int) × (List Int)))) => (oL pInt) b_.2.1) (x_O_o (kk := 2) (E1 := (oL pInt)) (s1 := fun (_ : Unit) => s155) (v1 := v1) k_l_drawn_side (hr.mono (by decide)) g_l_drawn_side F_l_drawn_side.kp b_l_drawn_side 0 (x_var (p := pV v1) 0) (fun _ => rfl))))))))))))) (fun _ => a_nil))))))) (fun _ => List.Sublist.refl _))) fun (b151 : (Unit × Unit)) => s_T (T := grd (rg x141 = true) ((compM (rngL 0 x141.toNat) (b142.2.2) (fun x160 s162 => if true = true then (M_l_number s162 ((10 : Int) ^ (29 : Int).toNat)).bind fun r164 => some (some (.inl (r164.1) : (Int ⊕ (Str ⊕ (List Int)))), r164.2) else some (none, s162))).bind fun r165 => some ((x136, (.inr (r165.1) : (Str ⊕ (List (Int ⊕ (Str ⊕ (List Int))))))), r165.2))) (s_ret (P := (fun (r : (Str × (Str ⊕ (List (Int ⊕ (Str ⊕ (List Int)))))) × (List Int)) => [⟨v1, (oL pInt) r.2, some 0⟩])) (Rp := (fun (r : (Str × (Str ⊕ (List (Int ⊕ (Str ⊕ (List Int)))))) × (List Int)) => (pT2 pStr (pSm pStr (pL (pSm pInt (pSm pStr (pL pInt)))))) r.1)) (ι := id) (rv := fun (b : (Unit × ((Unit × ((List (Int ⊕ (Str ⊕ (List Int)))) × (List Int))) × Unit))) => ((x136, (.inr (b.2.1.2.1) : (Str ⊕ (List (Int ⊕ (Str ⊕ (List Int))))))), b.2.1.2.2)) (fun _ _ _ h => h) (x_kd (x_kd (E := fun (b_ : (Unit × ((Unit × ((List (Int ⊕ (Str ⊕ (List Int)))) × (List Int))) × Unit))) => (pT2 pStr (pSm pStr (pL (pSm pInt (pSm pStr (pL pInt)))))) (x136, (.inr (b_.2.1.2.1) : (Str ⊕ (List (Int ⊕ (Str ⊕ (List Int)))))))) (x_tp2 pStr (pSm pStr (pL (pSm pInt (pSm pStr (pL pInt))))) (fun (b : (Unit × ((Unit × ((List (Int ⊕ (Str ⊕ (List Int)))) × (List Int))) × Unit))) => x136) (fun (b : (Unit × ((Unit × ((List (Int ⊕ (Str ⊕ (List Int)))) × (List Int))) × Unit))) => (.inr (b.2.1.2.1) : (Str ⊕ (List (Int ⊕ (Str ⊕ (List Int))))))) (pa_kd (a_cons (x_var (p := pStr x136) 1) (fun _ => a_cons (co_inr (E := pStr) (G := (pL (pSm pInt (pSm pStr (pL pInt))))) (x_kd (E := fun (b_ : (Unit × ((List (Int ⊕ (Str ⊕ (List Int)))) × (List Int)))) => (pL (pSm pInt (pSm pStr (pL pInt)))) b_.2.1) (x_frz (o_kd (E := fun (b_ : (Unit × ((List (Int ⊕ (Str ⊕ (List Int)))) × (List Int)))) => (oL (pSm pInt (pSm pStr (pL pInt)))) b_.2.1) (x_lc (own := [("_law_k", 3)]) (C := fun (b_ : Unit) (s_ : (List Int)) => [⟨v1, (oL pInt) s_, some 0⟩]) (s0 := fun (b_ : Unit) => b142.2.2) (s2 := fun (b_ : Unit) (x_ : Int) (s_ : (List Int)) (c_ : Unit) => s_) (s3 := fun (b_ : Unit) (x_ : Int) (s_ : (List Int)) (c_ : Unit) (d_ : ((Unit × (Unit × Unit)) × (Int × (List Int)))) => d_.2.2) (Ex := pInt) (Ee := (pSm pInt (pSm pStr (pL pInt)))) (δ := (Int ⊕ (Str ⊕ (List Int)))) (y := fun (b_ : Unit) (x_ : Int) (s_ : (List Int)) (c_ : Unit) (d_ : ((Unit × (Unit × Unit)) × (Int × (List Int)))) => (.inl (d_.2.1) : (Int ⊕ (Str ⊕ (List Int))))) (T2 := fun (b_ : Unit) (x_ : Int) (s_ : (List Int)) (c_ : Unit) => (M_l_number s_ ((10 : Int) ^ (29 : Int).toNat)).bind fun r164 => some (some (.inl (r164.1) : (Int ⊕ (Str ⊕ (List Int)))), r164.2)) (c := fun (b_ : Unit) (x_ : Int) (s_ : (List Int)) (c_ : Unit) => true) (f := fun (b_ : Unit) (x_ : Int) (s_ : (List Int)) => if true = true then (M_l_number s_ ((10 : Int) ^ (29 : Int).toNat)).bind fun r164 => some (some (.inl (r164.1) : (Int ⊕ (Str ⊕ (List Int)))), r164.2) else some (none, s_)) sc_l_drawn_certificate.nd (i_rng1 m_range (x_var (p := pInt x141) 2)) (blkOk_by (own := [("_law_k", 3)]) (N := ["_law_stream_here", "_law_word_here", "_law_count", "_law_k"]) (sc := (defScope (top 16))) (by decide +kernel)) (fun _ _ _ _ _ => pg_name (i := 3) sc_l_drawn_certificate.nd rfl (by first | exact .inl rfl | exact .inr rfl)) (tw_name 3) (fun _ => rfl) (by exact fun q163 _ _ _ _ _ b159 x160 s162 => pts_T) (by exact fun q163 _ _ _ _ _ b159 x160 s162 _ => x_out (co_inl (E := pInt) (G := (pSm pStr (pL pInt))) (x_kd (E := fun (b_ : ((Unit × (Unit × Unit)) × (Int × (List Int)))) => pInt b_.2.1) (x_OF_f (kk := 2) (E1 := (oL pInt)) (E2 := pInt) (s1 := fun (_ : Unit) (_ : (Unit × Unit)) => s162) (v1 := v1) k_l_number (hr.mono (by decide)) g_l_number F_l_number.kp b_l_number 0 (x_var (p := pV v1) 0) (fun _ => x_kd (E := fun (b_ : (Unit × Unit)) => pInt ((10 : Int) ^ (29 : Int).toNat)) (x_pow (x_int (i := 10)) (fun _ => x_int (i := 29)) (fun _ _ => by decide))) (fun _ _ => rfl)))))))))) (fun _ => a_nil))))))) (fun _ => List.Sublist.refl _)))))))) (by unfold M_l_drawn_certificate; rfl)
end
end My
end
section
set_option maxHeartbeats 4000000
set_option synthInstance.maxSize 2000
namespace My
open PySem PySem.Spec PyProof.Rows L2 L3
section
variable {P : Program} {w : World} {K : PySem.W.Frag} {mg : Str → Option Value} {base : Heap}
theorem sc_l_log_line : FnScope ["_law_stream_here", "_law_keys", "_law_size", "_law_sides", "_law_kind", "_law_first"] ["_law_stream_here", "_law_keys", "_law_size"] (defScope (top 17)) := ⟨rfl, rfl, rfl, by decide +kernel, rfl, by decide +kernel, by decide +kernel⟩
theorem ok_l_log_line {f : Addr} {fd : FuncData} (C : Ev P K mg) (FD : FnP K "_law_log_line" (top 17) f fd)   : FnOk P w K mg base CX0 4 f fd ["_law_stream_here", "_law_keys", "_law_size"] (Sp_OFF_f (oL pInt) (pL pStr) pInt M_l_log_line (pSm (pT3 pStr (pM (κ := Str) (pL pInt)) pStr) (pSm (pT4 pStr (pM (κ := Str) (pL pInt)) pStr (pT2 pStr (pSm pStr (pL (pSm pInt (pSm pStr (pL pInt))))))) (pT5 pStr (pM (κ := Str) (pL pInt)) pStr pInt pInt)))) := by
  have m_len := C.m_len
  obtain ⟨f_l_drawn_sides, fd_l_drawn_sides, F_l_drawn_sides, g_l_drawn_sides⟩ := C.f_l_drawn_sides
  have k_l_drawn_sides := ok_l_drawn_sides (P := P) (w := w) (base := base) C F_l_drawn_sides
  have b_l_drawn_sides : Binds K fd_l_drawn_sides ["_law_stream_here"] [] := F_l_drawn_sides.bindsN fun _ _ _ _ _ _ us hl => match us, hl with | [_], _ => rfl
  obtain ⟨f_l_next, fd_l_next, F_l_next, g_l_next⟩ := C.f_l_next
  have k_l_next := ok_l_next (P := P) (w := w) (base := base) C F_l_next
  have b_l_next : Binds K fd_l_next ["_law_stream_here", "_law_size"] [] := F_l_next.bindsN fun _ _ _ _ _ _ us hl => match us, hl with | [_, _], _ => rfl
  obtain ⟨f_l_word, fd_l_word, F_l_word, g_l_word⟩ := C.f_l_word
  have k_l_word := ok_l_word (P := P) (w := w) (base := base) C F_l_word
  have b_l_word : Binds K fd_l_word ["_law_stream_here"] [] := F_l_word.bindsN fun _ _ _ _ _ _ us hl => match us, hl with | [_], _ => rfl
  obtain ⟨f_l_drawn_certificate, fd_l_drawn_certificate, F_l_drawn_certificate, g_l_drawn_certificate⟩ := C.f_l_drawn_certificate
  have k_l_drawn_certificate := ok_l_drawn_certificate (P := P) (w := w) (base := base) C F_l_drawn_certificate
  have b_l_drawn_certificate : Binds K fd_l_drawn_certificate ["_law_stream_here"] [] := F_l_drawn_certificate.bindsN fun _ _ _ _ _ _ us hl => match us, hl with | [_], _ => rfl
  refine fn_OFF_f FD sc_l_log_line rfl fun cdv A outer s H E hr v1 G1 a1 a2 a3 => ?_
  exact s_is (s_T (T := (M_l_drawn_sides a1).bind fun r166 => (some (r166.1 : List (Str × List Int))).bind fun x167 => (M_l_next (r166.2) (8 : Int)).bind fun r169 => (some (r169.1 : Int)).bind fun x170 => if ((decide ((2 : Int) < x170)) && (decide ((0 : Int) < a3))) = true then (M_l_next (r169.2) a3).bind fun r173 => (some (((1 : Int) + (r173.1)) : Int)).bind fun x174 => (M_l_word (r173.2)).bind fun r176 => (M_l_next (r176.2) a3).bind fun r177 => some ((.inr (.inr (("join" : Str), x167, r176.1, x174, ((1 : Int) + (r177.1))) : ((Str × List (Str × List Int) × Str × (Str × (Str ⊕ (List (Int ⊕ (Str ⊕ (List Int))))))) ⊕ (Str × List (Str × List Int) × Str × Int × Int))) : ((Str × List (Str × List Int) × Str) ⊕ ((Str × List (Str × List Int) × Str × (Str × (Str ⊕ (List (Int ⊕ (Str ⊕ (List Int))))))) ⊕ (Str × List (Str × List Int) × Str × Int × Int)))), r177.2) else if (decide (x170 = (0 : Int))) = true then (M_l_word (r169.2)).bind fun r179 => some ((.inl (("void" : Str), x167, r179.1) : ((Str × List (Str × List Int) × Str) ⊕ ((Str × List (Str × List Int) × Str × (Str × (Str ⊕ (List (Int ⊕ (Str ⊕ (List Int))))))) ⊕ (Str × List (Str × List Int) × Str × Int × Int)))), r179.2) else (M_l_next (r169.2) (a2.length : Int)).bind fun r180 => (atI a2 (r180.1)).bind fun x181 => (M_l_drawn_certificate (r180.2)).bind fun r182 => some ((.inr (.inl (("rule" : Str), x167, x181, r182.1) : ((Str × List (Str × List Int) × Str × (Str × (Str ⊕ (List (Int ⊕ (Str ⊕ (List Int))))))) ⊕ (Str × List (Str × List Int) × Str × Int × Int))) : ((Str × List (Str × List Int) × Str) ⊕ ((Str × List (Str × List Int) × Str × (Str × (Str ⊕ (List (Int ⊕ (Str ⊕ (List Int))))))) ⊕ (Str × List (Str × List Int) × Str × Int × Int)))), r182.2)) (s_let (i := 3) (pM (κ := Str) (pL pInt)) sc_l_log_line.nd (x_kd (E := fun (b_ : (Unit × ((List (Str × List Int)) × (List Int)))) => (pM (κ := Str) (pL pInt)) b_.2.1) (x_frz (o_kd (E := fun (b_ : (Unit × ((List (Str × List Int)) × (List Int)))) => (oM (κ := Str) (pL pInt)) b_.2.1) (x_O_o (kk := 3) (E1 := (oL pInt)) (s1 := fun (_ : Unit) => a1) (v1 := v1) k_l_drawn_sides (hr.mono (by decide)) g_l_drawn_sides F_l_drawn_sides.kp b_l_drawn_sides 0 (x_var (p := pV v1) 0) (fun _ => rfl))))) fun (b168 : (Unit × ((List (Str × List Int)) × (List Int)))) x167 => s_T (T := (M_l_next (b168.2.2) (8 : Int)).bind fun r169 => (some (r169.1 : Int)).bind fun x170 => if ((decide ((2 : Int) < x170)) && (decide ((0 : Int) < a3))) = true then (M_l_next (r169.2) a3).bind fun r173 => (some (((1 : Int) + (r173.1)) : Int)).bind fun x174 => (M_l_word (r173.2)).bind fun r176 => (M_l_next (r176.2) a3).bind fun r177 => some ((.inr (.inr (("join" : Str), x167, r176.1, x174, ((1 : Int) + (r177.1))) : ((Str × List (Str × List Int) × Str × (Str × (Str ⊕ (List (Int ⊕ (Str ⊕ (List Int))))))) ⊕ (Str × List (Str × List Int) × Str × Int × Int))) : ((Str × List (Str × List Int) × Str) ⊕ ((Str × List (Str × List Int) × Str × (Str × (Str ⊕ (List (Int ⊕ (Str ⊕ (List Int))))))) ⊕ (Str × List (Str × List Int) × Str × Int × Int)))), r177.2) else if (decide (x170 = (0 : Int))) = true then (M_l_word (r169.2)).bind fun r179 => some ((.inl (("void" : Str), x167, r179.1) : ((Str × List (Str × List Int) × Str) ⊕ ((Str × List (Str × List Int) × Str × (Str × (Str ⊕ (List (Int ⊕ (Str ⊕ (List Int))))))) ⊕ (Str × List (Str × List Int) × Str × Int × Int)))), r179.2) else (M_l_next (r169.2) (a2.length : Int)).bind fun r180 => (atI a2 (r180.1)).bind fun x181 => (M_l_drawn_certificate (r180.2)).bind fun r182 => some ((.inr (.inl (("rule" : Str), x167, x181, r182.1) : ((Str × List (Str × List Int) × Str × (Str × (Str ⊕ (List (Int ⊕ (Str ⊕ (List Int))))))) ⊕ (Str × List (Str × List Int) × Str × Int × Int))) : ((Str × List (Str × List Int) × Str) ⊕ ((Str × List (Str × List Int) × Str × (Str × (Str ⊕ (List (Int ⊕ (Str ⊕ (List Int))))))) ⊕ (Str × List (Str × List Int) × Str × Int × Int)))), r182.2)) (s_let (i := 4) pInt sc_l_log_line.nd (x_kd (E := fun (b_ : ((Unit × Unit) × (Int × (List Int)))) => pInt b_.2.1) (x_OF_f (kk := 1) (E1 := (oL pInt)) (E2 := pInt) (s1 := fun (_ : Unit) (_ : Unit) => b168.2.2) (v1 := v1) k_l_next (hr.mono (by decide)) g_l_next F_l_next.kp b_l_next 0 (x_var (p := pV v1) 0) (fun _ => x_int (i := 8)) (fun _ _ => rfl))) fun (b171 : ((Unit × Unit) × (Int × (List Int)))) x170 => s_T (T := if ((decide ((2 : Int) < x170)) && (decide ((0 : Int) < a3))) = true then (M_l_next (b171.2.2) a3).bind fun r173 => (some (((1 : Int) + (r173.1)) : Int)).bind fun x174 => (M_l_word (r173.2)).bind fun r176 => (M_l_next (r176.2) a3).bind fun r177 => some ((.inr (.inr (("join" : Str), x167, r176.1, x174, ((1 : Int) + (r177.1))) : ((Str × List (Str × List Int) × Str × (Str × (Str ⊕ (List (Int ⊕ (Str ⊕ (List Int))))))) ⊕ (Str × List (Str × List Int) × Str × Int × Int))) : ((Str × List (Str × List Int) × Str) ⊕ ((Str × List (Str × List Int) × Str × (Str × (Str ⊕ (List (Int ⊕ (Str ⊕ (List Int))))))) ⊕ (Str × List (Str × List Int) × Str × Int × Int)))), r177.2) else if (decide (x170 = (0 : Int))) = true then (M_l_word (b171.2.2)).bind fun r179 => some ((.inl (("void" : Str), x167, r179.1) : ((Str × List (Str × List Int) × Str) ⊕ ((Str × List (Str × List Int) × Str × (Str × (Str ⊕ (List (Int ⊕ (Str ⊕ (List Int))))))) ⊕ (Str × List (Str × List Int) × Str × Int × Int)))), r179.2) else (M_l_next (b171.2.2) (a2.length : Int)).bind fun r180 => (atI a2 (r180.1)).bind fun x181 => (M_l_drawn_certificate (r180.2)).bind fun r182 => some ((.inr (.inl (("rule" : Str), x167, x181, r182.1) : ((Str × List (Str × List Int) × Str × (Str × (Str ⊕ (List (Int ⊕ (Str ⊕ (List Int))))))) ⊕ (Str × List (Str × List Int) × Str × Int × Int))) : ((Str × List (Str × List Int) × Str) ⊕ ((Str × List (Str × List Int) × Str × (Str × (Str ⊕ (List (Int ⊕ (Str ⊕ (List Int))))))) ⊕ (Str × List (Str × List Int) × Str × Int × Int)))), r182.2)) (s_ifT (ins_F _) (t_kd (c := fun (b_ : Unit) => ((decide ((2 : Int) < x170)) && (decide ((0 : Int) < a3)))) (PW.pt (w_and (t_totV (decide ((2 : Int) < x170)) ((), ()) (fun _ => rfl) (by exact (t_kd (c := fun (b_ : (Unit × Unit)) => (decide ((2 : Int) < x170))) (t_gt (y_var (p := pInt x170) 4) (fun _ => y_int (i := 2)))))) (w_and1 (t_totV (decide ((0 : Int) < a3)) ((), ()) (fun _ => rfl) (by exact (t_kd (c := fun (b_ : (Unit × Unit)) => (decide ((0 : Int) < a3))) (t_gt (y_var (p := pInt a3) 2) (fun _ => y_int (i := 0)))))))))) (fun (b172 : Unit) => s_T (T := (M_l_next (b171.2.2) a3).bind fun r173 => (some (((1 : Int) + (r173.1)) : Int)).bind fun x174 => (M_l_word (r173.2)).bind fun r176 => (M_l_next (r176.2) a3).bind fun r177 => some ((.inr (.inr (("join" : Str), x167, r176.1, x174, ((1 : Int) + (r177.1))) : ((Str × List (Str × List Int) × Str × (Str × (Str ⊕ (List (Int ⊕ (Str ⊕ (List Int))))))) ⊕ (Str × List (Str × List Int) × Str × Int × Int))) : ((Str × List (Str × List Int) × Str) ⊕ ((Str × List (Str × List Int) × Str × (Str × (Str ⊕ (List (Int ⊕ (Str ⊕ (List Int))))))) ⊕ (Str × List (Str × List Int) × Str × Int × Int)))), r177.2)) (s_let (i := 5) pInt sc_l_log_line.nd (x_kd (E := fun (b_ : (Unit × ((Unit × Unit) × (Int × (List Int))))) => pInt ((1 : Int) + (b_.2.2.1))) (x_add (x_int (i := 1)) (fun _ => x_kd (E := fun (b_ : ((Unit × Unit) × (Int × (List Int)))) => pInt b_.2.1) (x_OF_f (kk := 1) (E1 := (oL pInt)) (E2 := pInt) (s1 := fun (_ : Unit) (_ : Unit) => b171.2.2) (v1 := v1) k_l_next (hr.mono (by decide)) g_l_next F_l_next.kp b_l_next 0 (x_var (p := pV v1) 0) (fun _ => x_var (p := pInt a3) 2) (fun _ _ => rfl))))) fun (b175 : (Unit × ((Unit × Unit) × (Int × (List Int))))) x174 => s_T (T := (M_l_word (b175.2.2.2)).bind fun r176 => (M_l_next (r176.2) a3).bind fun r177 => some ((.inr (.inr (("join" : Str), x167, r176.1, x174, ((1 : Int) + (r177.1))) : ((Str × List (Str × List Int) × Str × (Str × (Str ⊕ (List (Int ⊕ (Str ⊕ (List Int))))))) ⊕ (Str × List (Str × List Int) × Str × Int × Int))) : ((Str × List (Str × List Int) × Str) ⊕ ((Str × List (Str × List Int) × Str × (Str × (Str ⊕ (List (Int ⊕ (Str ⊕ (List Int))))))) ⊕ (Str × List (Str × List Int) × Str × Int × Int)))), r177.2)) (s_ret (P := (fun (r : ((Str × List (Str × List Int) × Str) ⊕ ((Str × List (Str × List Int) × Str × (Str × (Str ⊕ (List (Int ⊕ (Str ⊕ (List Int))))))) ⊕ (Str × List (Str × List Int) × Str × Int × Int))) × (List Int)) => [⟨v1, (oL pInt) r.2, some 0⟩])) (Rp := (fun (r : ((Str × List (Str × List Int) × Str) ⊕ ((Str × List (Str × List Int) × Str × (Str × (Str ⊕ (List (Int ⊕ (Str ⊕ (List Int))))))) ⊕ (Str × List (Str × List Int) × Str × Int × Int))) × (List Int)) => (pSm (pT3 pStr (pM (κ := Str) (pL pInt)) pStr) (pSm (pT4 pStr (pM (κ := Str) (pL pInt)) pStr (pT2 pStr (pSm pStr (pL (pSm pInt (pSm pStr (pL pInt))))))) (pT5 pStr (pM (κ := Str) (pL pInt)) pStr pInt pInt))) r.1)) (ι := id) (rv := fun (b : (Unit × (Unit × ((Unit × (Str × (List Int))) × (Unit × ((Unit × ((Unit × Unit) × (Int × (List Int)))) × Unit)))))) => ((.inr (.inr (("join" : Str), x167, b.2.2.1.2.1, x174, ((1 : Int) + (b.2.2.2.2.1.2.2.1))) : ((Str × List (Str × List Int) × Str × (Str × (Str ⊕ (List (Int ⊕ (Str ⊕ (List Int))))))) ⊕ (Str × List (Str × List Int) × Str × Int × Int))) : ((Str × List (Str × List Int) × Str) ⊕ ((Str × List (Str × List Int) × Str × (Str × (Str ⊕ (List (Int ⊕ (Str ⊕ (List Int))))))) ⊕ (Str × List (Str × List Int) × Str × Int × Int)))), b.2.2.2.2.1.2.2.2)) (fun _ _ _ h => h) (x_kd (co_inr (E := (pT3 pStr (pM (κ := Str) (pL pInt)) pStr)) (G := (pSm (pT4 pStr (pM (κ := Str) (pL pInt)) pStr (pT2 pStr (pSm pStr (pL (pSm pInt (pSm pStr (pL pInt))))))) (pT5 pStr (pM (κ := Str) (pL pInt)) pStr pInt pInt))) (co_inr (E := (pT4 pStr (pM (κ := Str) (pL pInt)) pStr (pT2 pStr (pSm pStr (pL (pSm pInt (pSm pStr (pL pInt)))))))) (G := (pT5 pStr (pM (κ := Str) (pL pInt)) pStr pInt pInt)) (x_kd (E := fun (b_ : (Unit × (Unit × ((Unit × (Str × (List Int))) × (Unit × ((Unit × ((Unit × Unit) × (Int × (List Int)))) × Unit)))))) => (pT5 pStr (pM (κ := Str) (pL pInt)) pStr pInt pInt) (("join" : Str), x167, b_.2.2.1.2.1, x174, ((1 : Int) + (b_.2.2.2.2.1.2.2.1)))) (x_dispHT (Es := fun (b_ : (Unit × (Unit × ((Unit × (Str × (List Int))) × (Unit × ((Unit × ((Unit × Unit) × (Int × (List Int)))) × Unit)))))) => [pStr ("join" : Str), (pM (κ := Str) (pL pInt)) x167, pStr b_.2.2.1.2.1, pInt x174, pInt ((1 : Int) + (b_.2.2.2.2.1.2.2.1))]) (a_cons x_str (fun _ => a_cons (x_var (p := (pM (κ := Str) (pL pInt)) x167) 3) (fun _ => a_cons (x_kd (E := fun (b_ : (Unit × (Str × (List Int)))) => pStr b_.2.1) (x_O_f (kk := 2) (E1 := (oL pInt)) (s1 := fun (_ : Unit) => b175.2.2.2) (v1 := v1) k_l_word (hr.mono (by decide)) g_l_word F_l_word.kp b_l_word 0 (x_var (p := pV v1) 0) (fun _ => rfl))) (fun _ => a_cons (x_var (p := pInt x174) 5) (fun _ => a_cons (x_kd (E := fun (b_ : (Unit × ((Unit × Unit) × (Int × (List Int))))) => pInt ((1 : Int) + (b_.2.2.1))) (x_add (x_int (i := 1)) (fun _ => x_kd (E := fun (b_ : ((Unit × Unit) × (Int × (List Int)))) => pInt b_.2.1) (x_OF_f (kk := 1) (E1 := (oL pInt)) (E2 := pInt) (v1 := v1) k_l_next (hr.mono (by decide)) g_l_next F_l_next.kp b_l_next 0 (x_var (p := pV v1) 0) (fun _ => x_var (p := pInt a3) 2) (fun _ _ => rfl))))) (fun _ => a_nil)))))) (fun _ => by simp)))))) (fun _ => List.Sublist.refl _)))) fun (b172 : Unit) => s_T (T := if (decide (x170 = (0 : Int))) = true then (M_l_word (b171.2.2)).bind fun r179 => some ((.inl (("void" : Str), x167, r179.1) : ((Str × List (Str × List Int) × Str) ⊕ ((Str × List (Str × List Int) × Str × (Str × (Str ⊕ (List (Int ⊕ (Str ⊕ (List Int))))))) ⊕ (Str × List (Str × List Int) × Str × Int × Int)))), r179.2) else (M_l_next (b171.2.2) (a2.length : Int)).bind fun r180 => (atI a2 (r180.1)).bind fun x181 => (M_l_drawn_certificate (r180.2)).bind fun r182 => some ((.inr (.inl (("rule" : Str), x167, x181, r182.1) : ((Str × List (Str × List Int) × Str × (Str × (Str ⊕ (List (Int ⊕ (Str ⊕ (List Int))))))) ⊕ (Str × List (Str × List Int) × Str × Int × Int))) : ((Str × List (Str × List Int) × Str) ⊕ ((Str × List (Str × List Int) × Str × (Str × (Str ⊕ (List (Int ⊕ (Str ⊕ (List Int))))))) ⊕ (Str × List (Str × List Int) × Str × Int × Int)))), r182.2)) (s_ifT (ins_F _) (t_kd (c := fun (b_ : (Unit × Unit)) => (decide (x170 = (0 : Int)))) (t_eqI (x_var (p := pInt x170) 4) (fun _ => x_int (i := 0)))) (fun (b178 : (Unit × Unit)) => s_T (T := (M_l_word (b171.2.2)).bind fun r179 => some ((.inl (("void" : Str), x167, r179.1) : ((Str × List (Str × List Int) × Str) ⊕ ((Str × List (Str × List Int) × Str × (Str × (Str ⊕ (List (Int ⊕ (Str ⊕ (List Int))))))) ⊕ (Str × List (Str × List Int) × Str × Int × Int)))), r179.2)) (s_ret (P := (fun (r : ((Str × List (Str × List Int) × Str) ⊕ ((Str × List (Str × List Int) × Str × (Str × (Str ⊕ (List (Int ⊕ (Str ⊕ (List Int))))))) ⊕ (Str × List (Str × List Int) × Str × Int × Int))) × (List Int)) => [⟨v1, (oL pInt) r.2, some 0⟩])) (Rp := (fun (r : ((Str × List (Str × List Int) × Str) ⊕ ((Str × List (Str × List Int) × Str × (Str × (Str ⊕ (List (Int ⊕ (Str ⊕ (List Int))))))) ⊕ (Str × List (Str × List Int) × Str × Int × Int))) × (List Int)) => (pSm (pT3 pStr (pM (κ := Str) (pL pInt)) pStr) (pSm (pT4 pStr (pM (κ := Str) (pL pInt)) pStr (pT2 pStr (pSm pStr (pL (pSm pInt (pSm pStr (pL pInt))))))) (pT5 pStr (pM (κ := Str) (pL pInt)) pStr pInt pInt))) r.1)) (ι := id) (rv := fun (b : (Unit × (Unit × ((Unit × (Str × (List Int))) × Unit)))) => ((.inl (("void" : Str), x167, b.2.2.1.2.1) : ((Str × List (Str × List Int) × Str) ⊕ ((Str × List (Str × List Int) × Str × (Str × (Str ⊕ (List (Int ⊕ (Str ⊕ (List Int))))))) ⊕ (Str × List (Str × List Int) × Str × Int × Int)))), b.2.2.1.2.2)) (fun _ _ _ h => h) (x_kd (co_inl (E := (pT3 pStr (pM (κ := Str) (pL pInt)) pStr)) (G := (pSm (pT4 pStr (pM (κ := Str) (pL pInt)) pStr (pT2 pStr (pSm pStr (pL (pSm pInt (pSm pStr (pL pInt))))))) (pT5 pStr (pM (κ := Str) (pL pInt)) pStr pInt pInt))) (x_kd (E := fun (b_ : (Unit × (Unit × ((Unit × (Str × (List Int))) × Unit)))) => (pT3 pStr (pM (κ := Str) (pL pInt)) pStr) (("void" : Str), x167, b_.2.2.1.2.1)) (x_tp3 pStr (pM (κ := Str) (pL pInt)) pStr (fun (b : (Unit × (Unit × ((Unit × (Str × (List Int))) × Unit)))) => ("void" : Str)) (fun (b : (Unit × (Unit × ((Unit × (Str × (List Int))) × Unit)))) => x167) (fun (b : (Unit × (Unit × ((Unit × (Str × (List Int))) × Unit)))) => b.2.2.1.2.1) (pa_kd (a_cons x_str (fun _ => a_cons (x_var (p := (pM (κ := Str) (pL pInt)) x167) 3) (fun _ => a_cons (x_kd (E := fun (b_ : (Unit × (Str × (List Int)))) => pStr b_.2.1) (x_O_f (kk := 2) (E1 := (oL pInt)) (s1 := fun (_ : Unit) => b171.2.2) (v1 := v1) k_l_word (hr.mono (by decide)) g_l_word F_l_word.kp b_l_word 0 (x_var (p := pV v1) 0) (fun _ => rfl))) (fun _ => a_nil))))))))) (fun _ => List.Sublist.refl _))) fun (b178 : (Unit × Unit)) => s_T (T := (M_l_next (b171.2.2) (a2.length : Int)).bind fun r180 => (atI a2 (r180.1)).bind fun x181 => (M_l_drawn_certificate (r180.2)).bind fun r182 => some ((.inr (.inl (("rule" : Str), x167, x181, r182.1) : ((Str × List (Str × List Int) × Str × (Str × (Str ⊕ (List (Int ⊕ (Str ⊕ (List Int))))))) ⊕ (Str × List (Str × List Int) × Str × Int × Int))) : ((Str × List (Str × List Int) × Str) ⊕ ((Str × List (Str × List Int) × Str × (Str × (Str ⊕ (List (Int ⊕ (Str ⊕ (List Int))))))) ⊕ (Str × List (Str × List Int) × Str × Int × Int)))), r182.2)) (s_ret (P := (fun (r : ((Str × List (Str × List Int) × Str) ⊕ ((Str × List (Str × List Int) × Str × (Str × (Str ⊕ (List (Int ⊕ (Str ⊕ (List Int))))))) ⊕ (Str × List (Str × List Int) × Str × Int × Int))) × (List Int)) => [⟨v1, (oL pInt) r.2, some 0⟩])) (Rp := (fun (r : ((Str × List (Str × List Int) × Str) ⊕ ((Str × List (Str × List Int) × Str × (Str × (Str ⊕ (List (Int ⊕ (Str ⊕ (List Int))))))) ⊕ (Str × List (Str × List Int) × Str × Int × Int))) × (List Int)) => (pSm (pT3 pStr (pM (κ := Str) (pL pInt)) pStr) (pSm (pT4 pStr (pM (κ := Str) (pL pInt)) pStr (pT2 pStr (pSm pStr (pL (pSm pInt (pSm pStr (pL pInt))))))) (pT5 pStr (pM (κ := Str) (pL pInt)) pStr pInt pInt))) r.1)) (ι := id) (rv := fun (b : (Unit × (Unit × (((Unit × ((Unit × Unit) × (Int × (List Int)))) × Str) × ((Unit × ((Str × (Str ⊕ (List (Int ⊕ (Str ⊕ (List Int)))))) × (List Int))) × Unit))))) => ((.inr (.inl (("rule" : Str), x167, b.2.2.1.2, b.2.2.2.1.2.1) : ((Str × List (Str × List Int) × Str × (Str × (Str ⊕ (List (Int ⊕ (Str ⊕ (List Int))))))) ⊕ (Str × List (Str × List Int) × Str × Int × Int))) : ((Str × List (Str × List Int) × Str) ⊕ ((Str × List (Str × List Int) × Str × (Str × (Str ⊕ (List (Int ⊕ (Str ⊕ (List Int))))))) ⊕ (Str × List (Str × List Int) × Str × Int × Int)))), b.2.2.2.1.2.2)) (fun _ _ _ h => h) (x_kd (co_inr (E := (pT3 pStr (pM (κ := Str) (pL pInt)) pStr)) (G := (pSm (pT4 pStr (pM (κ := Str) (pL pInt)) pStr (pT2 pStr (pSm pStr (pL (pSm pInt (pSm pStr (pL pInt))))))) (pT5 pStr (pM (κ := Str) (pL pInt)) pStr pInt pInt))) (co_inl (E := (pT4 pStr (pM (κ := Str) (pL pInt)) pStr (pT2 pStr (pSm pStr (pL (pSm pInt (pSm pStr (pL pInt)))))))) (G := (pT5 pStr (pM (κ := Str) (pL pInt)) pStr pInt pInt)) (x_kd (E := fun (b_ : (Unit × (Unit × (((Unit × ((Unit × Unit) × (Int × (List Int)))) × Str) × ((Unit × ((Str × (Str ⊕ (List (Int ⊕ (Str ⊕ (List Int)))))) × (List Int))) × Unit))))) => (pT4 pStr (pM (κ := Str) (pL pInt)) pStr (pT2 pStr (pSm pStr (pL (pSm pInt (pSm pStr (pL pInt))))))) (("rule" : Str), x167, b_.2.2.1.2, b_.2.2.2.1.2.1)) (x_dispHT (Es := fun (b_ : (Unit × (Unit × (((Unit × ((Unit × Unit) × (Int × (List Int)))) × Str) × ((Unit × ((Str × (Str ⊕ (List (Int ⊕ (Str ⊕ (List Int)))))) × (List Int))) × Unit))))) => [pStr ("rule" : Str), (pM (κ := Str) (pL pInt)) x167, pStr b_.2.2.1.2, (pT2 pStr (pSm pStr (pL (pSm pInt (pSm pStr (pL pInt)))))) b_.2.2.2.1.2.1]) (a_cons x_str (fun _ => a_cons (x_var (p := (pM (κ := Str) (pL pInt)) x167) 3) (fun _ => a_cons (x_kd (E := fun (b_ : ((Unit × ((Unit × Unit) × (Int × (List Int)))) × Str)) => pStr b_.2) (x_ixL (Ee := pStr) (x_var (p := (pL pStr) a2) 1) (fun _ => x_kd (E := fun (b_ : ((Unit × Unit) × (Int × (List Int)))) => pInt b_.2.1) (x_OF_f (kk := 1) (E1 := (oL pInt)) (E2 := pInt) (s1 := fun (_ : Unit) (_ : Unit) => b171.2.2) (v1 := v1) k_l_next (hr.mono (by decide)) g_l_next F_l_next.kp b_l_next 0 (x_var (p := pV v1) 0) (fun _ => x_kd (E := fun (b_ : Unit) => pInt (a2.length : Int)) (x_lenL (Ee := pStr) m_len (x_var (p := (pL pStr) a2) 1) (fun _ => rdF))) (fun _ _ => rfl))) (fun _ _ => rdF))) (fun _ => a_cons (x_kd (E := fun (b_ : (Unit × ((Str × (Str ⊕ (List (Int ⊕ (Str ⊕ (List Int)))))) × (List Int)))) => (pT2 pStr (pSm pStr (pL (pSm pInt (pSm pStr (pL pInt)))))) b_.2.1) (x_O_f (kk := 3) (E1 := (oL pInt)) (v1 := v1) k_l_drawn_certificate (hr.mono (by decide)) g_l_drawn_certificate F_l_drawn_certificate.kp b_l_drawn_certificate 0 (x_var (p := pV v1) 0) (fun _ => rfl))) (fun _ => a_nil))))) (fun _ => by simp)))))) (fun _ => List.Sublist.refl _))))))) (by unfold M_l_log_line; rfl)
end
end My
end
section
set_option maxHeartbeats 4000000
set_option synthInstance.maxSize 2000
namespace My
open PySem PySem.Spec PyProof.Rows L2 L3
section
variable {P : Program} {w : World} {K : PySem.W.Frag} {mg : Str → Option Value} {base : Heap}
theorem sc_l_certificate_copy : FnScope ["_law_certificate", "_law_layer"] ["_law_certificate"] (defScope (top 18)) := ⟨rfl, rfl, rfl, by decide +kernel, rfl, by decide +kernel, by decide +kernel⟩
theorem ok_l_certificate_copy {f : Addr} {fd : FuncData} (C : Ev P K mg) (FD : FnP K "_law_certificate_copy" (top 18) f fd)   : FnOk P w K mg base CX0 1 f fd ["_law_certificate"] (Sp_F_f (pT2 pStr (pSm pStr (pL (pSm pInt (pSm pStr (pL pInt)))))) M_l_certificate_copy (pT2 pStr (pSm pStr (pL (pSm pInt (pSm pStr (pL pInt))))))) := by
  have m_list := C.m_list
  refine fn_F_f FD sc_l_certificate_copy rfl fun cdv A outer s H E hr  a1 => ?_
  exact s_is (s_T (T := if (decide (a1.1 = ("empty" : Str))) = true then some (a1.1, a1.2) else if (decide (a1.1 = ("layers" : Str))) = true then (smR a1.2).bind fun u185 => (compM u185 () (fun x187 s190 => if true = true then (smR x187).bind fun u192 => (smR u192).bind fun u193 => some (some (.inr (.inr u193 : (Str ⊕ (List Int))) : (Int ⊕ (Str ⊕ (List Int)))), ()) else some (none, ()))).bind fun r194 => some (a1.1, (.inr (r194.1) : (Str ⊕ (List (Int ⊕ (Str ⊕ (List Int))))))) else (smR a1.2).bind fun u195 => some (a1.1, (.inr u195 : (Str ⊕ (List (Int ⊕ (Str ⊕ (List Int)))))))) (s_ifT (ins_F _) (t_kd (c := fun (b_ : (Unit × Unit)) => (decide (a1.1 = ("empty" : Str)))) (t_eqS (x_kd (E := fun (b_ : Unit) => pStr a1.1) (x_fst (x_var (p := (pT2 pStr (pSm pStr (pL (pSm pInt (pSm pStr (pL pInt)))))) a1) 0))) (fun _ => x_str))) (fun (b183 : (Unit × Unit)) => s_T (T := some (a1.1, a1.2)) (s_ret (P := (fun _ => [])) (Rp := (pT2 pStr (pSm pStr (pL (pSm pInt (pSm pStr (pL pInt))))))) (ι := id) (rv := fun (b : (Unit × (Unit × Unit))) => (a1.1, a1.2)) (fun _ _ _ h => h) (x_kd (x_kd (E := fun (b_ : (Unit × (Unit × Unit))) => (pT2 pStr (pSm pStr (pL (pSm pInt (pSm pStr (pL pInt)))))) (a1.1, a1.2)) (x_tup2 (a_cons (x_kd (E := fun (b_ : Unit) => pStr a1.1) (x_fst (x_var (p := (pT2 pStr (pSm pStr (pL (pSm pInt (pSm pStr (pL pInt)))))) a1) 0))) (fun _ => a_cons (x_kd (E := fun (b_ : Unit) => (pSm pStr (pL (pSm pInt (pSm pStr (pL pInt))))) a1.2) (x_snd (x_var (p := (pT2 pStr (pSm pStr (pL (pSm pInt (pSm pStr (pL pInt)))))) a1) 0))) (fun _ => a_nil))) pStr (pSm pStr (pL (pSm pInt (pSm pStr (pL pInt))))) (fun (b : (Unit × (Unit × Unit))) => a1.1) (fun (b : (Unit × (Unit × Unit))) => a1.2)))) (fun _ => List.Sublist.refl _))) fun (b183 : (Unit × Unit)) => s_T (T := if (decide (a1.1 = ("layers" : Str))) = true then (smR a1.2).bind fun u185 => (compM u185 () (fun x187 s190 => if true = true then (smR x187).bind fun u192 => (smR u192).bind fun u193 => some (some (.inr (.inr u193 : (Str ⊕ (List Int))) : (Int ⊕ (Str ⊕ (List Int)))), ()) else some (none, ()))).bind fun r194 => some (a1.1, (.inr (r194.1) : (Str ⊕ (List (Int ⊕ (Str ⊕ (List Int))))))) else (smR a1.2).bind fun u195 => some (a1.1, (.inr u195 : (Str ⊕ (List (Int ⊕ (Str ⊕ (List Int)))))))) (s_ifT (ins_F _) (t_kd (c := fun (b_ : (Unit × Unit)) => (decide (a1.1 = ("layers" : Str)))) (t_eqS (x_kd (E := fun (b_ : Unit) => pStr a1.1) (x_fst (x_var (p := (pT2 pStr (pSm pStr (pL (pSm pInt (pSm pStr (pL pInt)))))) a1) 0))) (fun _ => x_str))) (fun (b184 : (Unit × Unit)) => s_T (T := (smR a1.2).bind fun u185 => (compM u185 () (fun x187 s190 => if true = true then (smR x187).bind fun u192 => (smR u192).bind fun u193 => some (some (.inr (.inr u193 : (Str ⊕ (List Int))) : (Int ⊕ (Str ⊕ (List Int)))), ()) else some (none, ()))).bind fun r194 => some (a1.1, (.inr (r194.1) : (Str ⊕ (List (Int ⊕ (Str ⊕ (List Int)))))))) (s_ret (P := (fun _ => [])) (Rp := (pT2 pStr (pSm pStr (pL (pSm pInt (pSm pStr (pL pInt))))))) (ι := id) (rv := fun (b : (Unit × (((Unit × (List (Int ⊕ (Str ⊕ (List Int))))) × ((List (Int ⊕ (Str ⊕ (List Int)))) × Unit)) × Unit))) => (a1.1, (.inr (b.2.1.2.1) : (Str ⊕ (List (Int ⊕ (Str ⊕ (List Int)))))))) (fun _ _ _ h => h) (x_kd (x_kd (E := fun (b_ : (Unit × (((Unit × (List (Int ⊕ (Str ⊕ (List Int))))) × ((List (Int ⊕ (Str ⊕ (List Int)))) × Unit)) × Unit))) => (pT2 pStr (pSm pStr (pL (pSm pInt (pSm pStr (pL pInt)))))) (a1.1, (.inr (b_.2.1.2.1) : (Str ⊕ (List (Int ⊕ (Str ⊕ (List Int)))))))) (x_tup2 (a_cons (x_kd (E := fun (b_ : Unit) => pStr a1.1) (x_fst (x_var (p := (pT2 pStr (pSm pStr (pL (pSm pInt (pSm pStr (pL pInt)))))) a1) 0))) (fun _ => a_cons (co_inr (E := pStr) (G := (pL (pSm pInt (pSm pStr (pL pInt))))) (x_kd (E := fun (b_ : ((Unit × (List (Int ⊕ (Str ⊕ (List Int))))) × ((List (Int ⊕ (Str ⊕ (List Int)))) × Unit))) => (pL (pSm pInt (pSm pStr (pL pInt)))) b_.2.1) (x_frz (o_kd (E := fun (b_ : ((Unit × (List (Int ⊕ (Str ⊕ (List Int))))) × ((List (Int ⊕ (Str ⊕ (List Int)))) × Unit))) => (oL (pSm pInt (pSm pStr (pL pInt)))) b_.2.1) (x_lc (own := [("_law_layer", 1)]) (C := fun (b_ : (Unit × (List (Int ⊕ (Str ⊕ (List Int)))))) (s_ : Unit) => []) (s0 := fun (b_ : (Unit × (List (Int ⊕ (Str ⊕ (List Int)))))) => ()) (s2 := fun (b_ : (Unit × (List (Int ⊕ (Str ⊕ (List Int)))))) (x_ : (Int ⊕ (Str ⊕ (List Int)))) (s_ : Unit) (c_ : Unit) => ()) (s3 := fun (b_ : (Unit × (List (Int ⊕ (Str ⊕ (List Int)))))) (x_ : (Int ⊕ (Str ⊕ (List Int)))) (s_ : Unit) (c_ : Unit) (d_ : ((Unit × (Str ⊕ (List Int))) × (List Int))) => ()) (Ex := (pSm pInt (pSm pStr (pL pInt)))) (Ee := (pSm pInt (pSm pStr (pL pInt)))) (δ := (Int ⊕ (Str ⊕ (List Int)))) (y := fun (b_ : (Unit × (List (Int ⊕ (Str ⊕ (List Int)))))) (x_ : (Int ⊕ (Str ⊕ (List Int)))) (s_ : Unit) (c_ : Unit) (d_ : ((Unit × (Str ⊕ (List Int))) × (List Int))) => (.inr (.inr d_.2 : (Str ⊕ (List Int))) : (Int ⊕ (Str ⊕ (List Int))))) (T2 := fun (b_ : (Unit × (List (Int ⊕ (Str ⊕ (List Int)))))) (x_ : (Int ⊕ (Str ⊕ (List Int)))) (s_ : Unit) (c_ : Unit) => (smR x_).bind fun u192 => (smR u192).bind fun u193 => some (some (.inr (.inr u193 : (Str ⊕ (List Int))) : (Int ⊕ (Str ⊕ (List Int)))), ())) (c := fun (b_ : (Unit × (List (Int ⊕ (Str ⊕ (List Int)))))) (x_ : (Int ⊕ (Str ⊕ (List Int)))) (s_ : Unit) (c_ : Unit) => true) (f := fun (b_ : (Unit × (List (Int ⊕ (Str ⊕ (List Int)))))) (x_ : (Int ⊕ (Str ⊕ (List Int)))) (s_ : Unit) => if true = true then (smR x_).bind fun u192 => (smR u192).bind fun u193 => some (some (.inr (.inr u193 : (Str ⊕ (List Int))) : (Int ⊕ (Str ⊕ (List Int)))), ()) else some (none, ())) sc_l_certificate_copy.nd (i_list (x_inr (E := pStr) (G := (pL (pSm pInt (pSm pStr (pL pInt))))) (x_kd (E := fun (b_ : Unit) => (pSm pStr (pL (pSm pInt (pSm pStr (pL pInt))))) a1.2) (x_snd (x_var (p := (pT2 pStr (pSm pStr (pL (pSm pInt (pSm pStr (pL pInt)))))) a1) 0))))) (blkOk_by (own := [("_law_layer", 1)]) (N := ["_law_certificate", "_law_layer"]) (sc := (defScope (top 18))) (by decide +kernel)) (fun _ _ _ _ _ => pg_name (i := 1) sc_l_certificate_copy.nd rfl (by first | exact .inl rfl | exact .inr rfl)) (tw_name 1) (fun _ => rfl) (by exact fun q191 _ _ _ _ _ b186 x187 s190 => pts_T) (by exact fun q191 _ _ _ _ _ b186 x187 s190 _ => x_out (co_inr (E := pInt) (G := (pSm pStr (pL pInt))) (co_inr (E := pStr) (G := (pL pInt)) (x_kd (E := fun (b_ : ((Unit × (Str ⊕ (List Int))) × (List Int))) => (pL pInt) b_.2) (x_frz (o_kd (E := fun (b_ : ((Unit × (Str ⊕ (List Int))) × (List Int))) => (oL pInt) b_.2) (x_listL (Ee := pInt) m_list (x_inr (E := pStr) (G := (pL pInt)) (x_inr (E := pInt) (G := (pSm pStr (pL pInt))) (x_var (p := (pSm pInt (pSm pStr (pL pInt))) x187) 1))) (fun _ => rdF))))))))))))) (fun _ => a_nil))) pStr (pSm pStr (pL (pSm pInt (pSm pStr (pL pInt))))) (fun (b : (Unit × (((Unit × (List (Int ⊕ (Str ⊕ (List Int))))) × ((List (Int ⊕ (Str ⊕ (List Int)))) × Unit)) × Unit))) => a1.1) (fun (b : (Unit × (((Unit × (List (Int ⊕ (Str ⊕ (List Int))))) × ((List (Int ⊕ (Str ⊕ (List Int)))) × Unit)) × Unit))) => (.inr (b.2.1.2.1) : (Str ⊕ (List (Int ⊕ (Str ⊕ (List Int)))))))))) (fun _ => List.Sublist.refl _))) fun (b184 : (Unit × Unit)) => s_T (T := (smR a1.2).bind fun u195 => some (a1.1, (.inr u195 : (Str ⊕ (List (Int ⊕ (Str ⊕ (List Int)))))))) (s_ret (P := (fun _ => [])) (Rp := (pT2 pStr (pSm pStr (pL (pSm pInt (pSm pStr (pL pInt))))))) (ι := id) (rv := fun (b : (Unit × ((Unit × (List (Int ⊕ (Str ⊕ (List Int))))) × Unit))) => (a1.1, (.inr b.2.1.2 : (Str ⊕ (List (Int ⊕ (Str ⊕ (List Int)))))))) (fun _ _ _ h => h) (x_kd (x_kd (E := fun (b_ : (Unit × ((Unit × (List (Int ⊕ (Str ⊕ (List Int))))) × Unit))) => (pT2 pStr (pSm pStr (pL (pSm pInt (pSm pStr (pL pInt)))))) (a1.1, (.inr b_.2.1.2 : (Str ⊕ (List (Int ⊕ (Str ⊕ (List Int)))))))) (x_tup2 (a_cons (x_kd (E := fun (b_ : Unit) => pStr a1.1) (x_fst (x_var (p := (pT2 pStr (pSm pStr (pL (pSm pInt (pSm pStr (pL pInt)))))) a1) 0))) (fun _ => a_cons (co_inr (E := pStr) (G := (pL (pSm pInt (pSm pStr (pL pInt))))) (x_kd (E := fun (b_ : (Unit × (List (Int ⊕ (Str ⊕ (List Int)))))) => (pL (pSm pInt (pSm pStr (pL pInt)))) b_.2) (x_frz (o_kd (E := fun (b_ : (Unit × (List (Int ⊕ (Str ⊕ (List Int)))))) => (oL (pSm pInt (pSm pStr (pL pInt)))) b_.2) (x_listL (Ee := (pSm pInt (pSm pStr (pL pInt)))) m_list (x_inr (E := pStr) (G := (pL (pSm pInt (pSm pStr (pL pInt))))) (x_kd (E := fun (b_ : Unit) => (pSm pStr (pL (pSm pInt (pSm pStr (pL pInt))))) a1.2) (x_snd (x_var (p := (pT2 pStr (pSm pStr (pL (pSm pInt (pSm pStr (pL pInt)))))) a1) 0)))) (fun _ => rdF)))))) (fun _ => a_nil))) pStr (pSm pStr (pL (pSm pInt (pSm pStr (pL pInt))))) (fun (b : (Unit × ((Unit × (List (Int ⊕ (Str ⊕ (List Int))))) × Unit))) => a1.1) (fun (b : (Unit × ((Unit × (List (Int ⊕ (Str ⊕ (List Int))))) × Unit))) => (.inr b.2.1.2 : (Str ⊕ (List (Int ⊕ (Str ⊕ (List Int)))))))))) (fun _ => List.Sublist.refl _))))) (by unfold M_l_certificate_copy; rfl)
end
end My
end
section
set_option maxHeartbeats 4000000
set_option synthInstance.maxSize 2000
namespace My
open PySem PySem.Spec PyProof.Rows L2 L3
section
variable {P : Program} {w : World} {K : PySem.W.Frag} {mg : Str → Option Value} {base : Heap}
theorem sc_l_copied : FnScope ["_law_sides", "_law_copied_here", "_law_name"] ["_law_sides"] (defScope (top 19)) := ⟨rfl, rfl, rfl, by decide +kernel, rfl, by decide +kernel, by decide +kernel⟩
theorem ok_l_copied {f : Addr} {fd : FuncData} (C : Ev P K mg) (FD : FnP K "_law_copied" (top 19) f fd)   : FnOk P w K mg base CX0 1 f fd ["_law_sides"] (Sp_F_o (pM (κ := Str) (pL pInt)) M_l_copied (oM (κ := Str) (pL pInt))) := by
  have m_list := C.m_list
  refine fn_F_o FD sc_l_copied rfl fun cdv A outer s H E hr  a1 => ?_
  exact s_is (s_T (T := (some (([] : List (Str × List Int)) : List (Str × List Int))).bind fun x196 => (forS (a1.map Prod.fst) (x196 : (List (Str × List Int))) fun x202 s201 => (dget a1 x202).bind fun x205 => grd (s201.length < sizeLine) (some (dput s201 x202 x205))).bind fun s203 => some s203) (s_letO (i := 1) (oM (κ := Str) (pL pInt)) sc_l_copied.nd (o_kd (E := fun (b_ : Unit) => (oM (κ := Str) (pL pInt)) ([] : List (Str × List Int))) (x_dict0 (κ := Str) (pL pInt))) fun (b197 : Unit) x196 v199 => s_T (T := (forS (a1.map Prod.fst) (x196 : (List (Str × List Int))) fun x202 s201 => (dget a1 x202).bind fun x205 => grd (s201.length < sizeLine) (some (dput s201 x202 x205))).bind fun s203 => some s203) (s_forS PassesOwn.never (fun (b_ : Unit) (s_ : (List (Str × List Int))) => ([some ((pM (κ := Str) (pL pInt)) a1), some (pV v199), none], [⟨v199, (oM (κ := Str) (pL pInt)) s_, none⟩])) (fun (b_ : Unit) => x196) (i_mkeys (κ := Str) (x_var (p := (pM (κ := Str) (pL pInt)) a1) 0)) (pg_name (i := 2) sc_l_copied.nd rfl (by first | exact .inl rfl | exact .inr rfl)) (tg_name 2) (fun _ => ⟨rfl, rfl, trivial⟩) (fun _ => List.Sublist.refl _) (fun b200 x202 s201 => s_T (T := (dget a1 x202).bind fun x205 => grd (s201.length < sizeLine) (some (dput s201 x202 x205))) (s_dput (κ := Str) (Ee := (pL pInt)) 0 hr.units (x_kd (E := fun (b_ : ((Unit × Unit) × (List Int))) => (pL pInt) b_.2) (x_frz (o_kd (E := fun (b_ : ((Unit × Unit) × (List Int))) => (oL pInt) b_.2) (x_listL (Ee := pInt) m_list (x_kd (E := fun (b_ : ((Unit × Unit) × (List Int))) => (pL pInt) b_.2) (x_dget (κ := Str) (Ee := (pL pInt)) hr.units (x_var (p := (pM (κ := Str) (pL pInt)) a1) 0) (fun _ => x_var (p := pStr x202) 2) (fun _ _ => rdMF))) (fun _ => rdF))))) (fun _ => x_var (p := pV v199) 1) (fun _ _ => x_var (p := pStr x202) 2) (fun _ _ _ => rfl) fun (b206 : ((((Unit × Unit) × (List Int)) × Unit) × Unit)) => s_end (dput s201 x202 b206.1.1.2) rfl ⟨rfl, rfl, trivial⟩ (List.Sublist.refl _))) fun b200 s203 => s_T (T := some s203) (s_retV 0 (P := (fun _ => [])) (Ro := (oM (κ := Str) (pL pInt))) (ι := id) (rv := fun _ => s203) (fun _ _ _ h => h) (x_var (p := pV v199) 1) (fun _ => rfl) (fun _ => List.Sublist.refl _))))) (by unfold M_l_copied; rfl)
end
end My
end
section
set_option maxHeartbeats 4000000
set_option synthInstance.maxSize 2000
namespace My
open PySem PySem.Spec PyProof.Rows L2 L3
section
variable {P : Program} {w : World} {K : PySem.W.Frag} {mg : Str → Option Value} {base : Heap}
theorem sc_l_line_copy : FnScope ["_law_line"] ["_law_line"] (defScope (top 20)) := ⟨rfl, rfl, rfl, by decide +kernel, rfl, by decide +kernel, by decide +kernel⟩
theorem ok_l_line_copy {f : Addr} {fd : FuncData} (C : Ev P K mg) (FD : FnP K "_law_line_copy" (top 20) f fd)   : FnOk P w K mg base CX0 2 f fd ["_law_line"] (Sp_F_f (pSm (pT3 pStr (pM (κ := Str) (pL pInt)) pStr) (pSm (pT4 pStr (pM (κ := Str) (pL pInt)) pStr (pT2 pStr (pSm pStr (pL (pSm pInt (pSm pStr (pL pInt))))))) (pT5 pStr (pM (κ := Str) (pL pInt)) pStr pInt pInt))) M_l_line_copy (pSm (pT3 pStr (pM (κ := Str) (pL pInt)) pStr) (pSm (pT4 pStr (pM (κ := Str) (pL pInt)) pStr (pT2 pStr (pSm pStr (pL (pSm pInt (pSm pStr (pL pInt))))))) (pT5 pStr (pM (κ := Str) (pL pInt)) pStr pInt pInt)))) := by
  obtain ⟨f_l_copied, fd_l_copied, F_l_copied, g_l_copied⟩ := C.f_l_copied
  have k_l_copied := ok_l_copied (P := P) (w := w) (base := base) C F_l_copied
  have b_l_copied : Binds K fd_l_copied ["_law_sides"] [] := F_l_copied.bindsN fun _ _ _ _ _ _ us hl => match us, hl with | [_], _ => rfl
  obtain ⟨f_l_certificate_copy, fd_l_certificate_copy, F_l_certificate_copy, g_l_certificate_copy⟩ := C.f_l_certificate_copy
  have k_l_certificate_copy := ok_l_certificate_copy (P := P) (w := w) (base := base) C F_l_certificate_copy
  have b_l_certificate_copy : Binds K fd_l_certificate_copy ["_law_certificate"] [] := F_l_certificate_copy.bindsN fun _ _ _ _ _ _ us hl => match us, hl with | [_], _ => rfl
  refine fn_F_f FD sc_l_line_copy rfl fun cdv A outer s H E hr  a1 => ?_
  exact s_is (s_T (T := ((Sum.elim (fun (x_ : (Str × List (Str × List Int) × Str)) => some x_.1) (Sum.elim (fun (x_ : (Str × List (Str × List Int) × Str × (Str × (Str ⊕ (List (Int ⊕ (Str ⊕ (List Int)))))))) => some x_.1) (fun (x_ : (Str × List (Str × List Int) × Str × Int × Int)) => some x_.1))) a1).bind fun u207 => if (decide (u207 = ("answer" : Str))) = true then none else ((Sum.elim (fun (x_ : (Str × List (Str × List Int) × Str)) => some x_.1) (Sum.elim (fun (x_ : (Str × List (Str × List Int) × Str × (Str × (Str ⊕ (List (Int ⊕ (Str ⊕ (List Int)))))))) => some x_.1) (fun (x_ : (Str × List (Str × List Int) × Str × Int × Int)) => some x_.1))) a1).bind fun u209 => if (decide (u209 = ("rule" : Str))) = true then ((Sum.elim (fun (_ : (Str × List (Str × List Int) × Str)) => (none : Option (List (Str × List Int)))) (Sum.elim (fun (x_ : (Str × List (Str × List Int) × Str × (Str × (Str ⊕ (List (Int ⊕ (Str ⊕ (List Int)))))))) => some x_.2.1) (fun (_ : (Str × List (Str × List Int) × Str × Int × Int)) => (none : Option (List (Str × List Int)))))) a1).bind fun u211 => (M_l_copied u211).bind fun r212 => ((Sum.elim (fun (_ : (Str × List (Str × List Int) × Str)) => (none : Option Str)) (Sum.elim (fun (x_ : (Str × List (Str × List Int) × Str × (Str × (Str ⊕ (List (Int ⊕ (Str ⊕ (List Int)))))))) => some x_.2.2.1) (fun (_ : (Str × List (Str × List Int) × Str × Int × Int)) => (none : Option Str)))) a1).bind fun u213 => ((Sum.elim (fun (_ : (Str × List (Str × List Int) × Str)) => (none : Option (Str × (Str ⊕ (List (Int ⊕ (Str ⊕ (List Int)))))))) (Sum.elim (fun (x_ : (Str × List (Str × List Int) × Str × (Str × (Str ⊕ (List (Int ⊕ (Str ⊕ (List Int)))))))) => some x_.2.2.2) (fun (_ : (Str × List (Str × List Int) × Str × Int × Int)) => (none : Option (Str × (Str ⊕ (List (Int ⊕ (Str ⊕ (List Int)))))))))) a1).bind fun u214 => (M_l_certificate_copy u214).bind fun r215 => some (.inr (.inl (("rule" : Str), r212, u213, r215) : ((Str × List (Str × List Int) × Str × (Str × (Str ⊕ (List (Int ⊕ (Str ⊕ (List Int))))))) ⊕ (Str × List (Str × List Int) × Str × Int × Int))) : ((Str × List (Str × List Int) × Str) ⊕ ((Str × List (Str × List Int) × Str × (Str × (Str ⊕ (List (Int ⊕ (Str ⊕ (List Int))))))) ⊕ (Str × List (Str × List Int) × Str × Int × Int)))) else ((Sum.elim (fun (x_ : (Str × List (Str × List Int) × Str)) => some x_.1) (Sum.elim (fun (x_ : (Str × List (Str × List Int) × Str × (Str × (Str ⊕ (List (Int ⊕ (Str ⊕ (List Int)))))))) => some x_.1) (fun (x_ : (Str × List (Str × List Int) × Str × Int × Int)) => some x_.1))) a1).bind fun u216 => if (decide (u216 = ("join" : Str))) = true then ((Sum.elim (fun (_ : (Str × List (Str × List Int) × Str)) => (none : Option (List (Str × List Int)))) (Sum.elim (fun (_ : (Str × List (Str × List Int) × Str × (Str × (Str ⊕ (List (Int ⊕ (Str ⊕ (List Int)))))))) => (none : Option (List (Str × List Int)))) (fun (x_ : (Str × List (Str × List Int) × Str × Int × Int)) => some x_.2.1))) a1).bind fun u218 => (M_l_copied u218).bind fun r219 => ((Sum.elim (fun (_ : (Str × List (Str × List Int) × Str)) => (none : Option Str)) (Sum.elim (fun (_ : (Str × List (Str × List Int) × Str × (Str × (Str ⊕ (List (Int ⊕ (Str ⊕ (List Int)))))))) => (none : Option Str)) (fun (x_ : (Str × List (Str × List Int) × Str × Int × Int)) => some x_.2.2.1))) a1).bind fun u220 => ((Sum.elim (fun (_ : (Str × List (Str × List Int) × Str)) => (none : Option Int)) (Sum.elim (fun (_ : (Str × List (Str × List Int) × Str × (Str × (Str ⊕ (List (Int ⊕ (Str ⊕ (List Int)))))))) => (none : Option Int)) (fun (x_ : (Str × List (Str × List Int) × Str × Int × Int)) => some x_.2.2.2.1))) a1).bind fun u221 => ((Sum.elim (fun (_ : (Str × List (Str × List Int) × Str)) => (none : Option Int)) (Sum.elim (fun (_ : (Str × List (Str × List Int) × Str × (Str × (Str ⊕ (List (Int ⊕ (Str ⊕ (List Int)))))))) => (none : Option Int)) (fun (x_ : (Str × List (Str × List Int) × Str × Int × Int)) => some x_.2.2.2.2))) a1).bind fun u222 => some (.inr (.inr (("join" : Str), r219, u220, u221, u222) : ((Str × List (Str × List Int) × Str × (Str × (Str ⊕ (List (Int ⊕ (Str ⊕ (List Int))))))) ⊕ (Str × List (Str × List Int) × Str × Int × Int))) : ((Str × List (Str × List Int) × Str) ⊕ ((Str × List (Str × List Int) × Str × (Str × (Str ⊕ (List (Int ⊕ (Str ⊕ (List Int))))))) ⊕ (Str × List (Str × List Int) × Str × Int × Int)))) else ((Sum.elim (fun (x_ : (Str × List (Str × List Int) × Str)) => some x_.1) (Sum.elim (fun (x_ : (Str × List (Str × List Int) × Str × (Str × (Str ⊕ (List (Int ⊕ (Str ⊕ (List Int)))))))) => some x_.1) (fun (x_ : (Str × List (Str × List Int) × Str × Int × Int)) => some x_.1))) a1).bind fun u223 => if (decide (u223 = ("worse" : Str))) = true then none else ((Sum.elim (fun (x_ : (Str × List (Str × List Int) × Str)) => some x_.1) (Sum.elim (fun (x_ : (Str × List (Str × List Int) × Str × (Str × (Str ⊕ (List (Int ⊕ (Str ⊕ (List Int)))))))) => some x_.1) (fun (x_ : (Str × List (Str × List Int) × Str × Int × Int)) => some x_.1))) a1).bind fun u225 => ((Sum.elim (fun (x_ : (Str × List (Str × List Int) × Str)) => some x_.2.1) (Sum.elim (fun (x_ : (Str × List (Str × List Int) × Str × (Str × (Str ⊕ (List (Int ⊕ (Str ⊕ (List Int)))))))) => some x_.2.1) (fun (x_ : (Str × List (Str × List Int) × Str × Int × Int)) => some x_.2.1))) a1).bind fun u226 => (M_l_copied u226).bind fun r227 => ((Sum.elim (fun (x_ : (Str × List (Str × List Int) × Str)) => some x_.2.2) (Sum.elim (fun (x_ : (Str × List (Str × List Int) × Str × (Str × (Str ⊕ (List (Int ⊕ (Str ⊕ (List Int)))))))) => some x_.2.2.1) (fun (x_ : (Str × List (Str × List Int) × Str × Int × Int)) => some x_.2.2.1))) a1).bind fun u228 => some (.inl (u225, r227, u228) : ((Str × List (Str × List Int) × Str) ⊕ ((Str × List (Str × List Int) × Str × (Str × (Str ⊕ (List (Int ⊕ (Str ⊕ (List Int))))))) ⊕ (Str × List (Str × List Int) × Str × Int × Int))))) (s_ifT (ins_F _) (t_kd (c := fun (b_ : ((Unit × Str) × Unit)) => (decide (b_.1.2 = ("answer" : Str)))) (t_eqS (x_kd (E := fun (b_ : (Unit × Str)) => pStr b_.2) (x_ixP (P := (pSm (pT3 pStr (pM (κ := Str) (pL pInt)) pStr) (pSm (pT4 pStr (pM (κ := Str) (pL pInt)) pStr (pT2 pStr (pSm pStr (pL (pSm pInt (pSm pStr (pL pInt))))))) (pT5 pStr (pM (κ := Str) (pL pInt)) pStr pInt pInt)))) (E := pStr) 0 (g := (Sum.elim (fun (x_ : (Str × List (Str × List Int) × Str)) => some x_.1) (Sum.elim (fun (x_ : (Str × List (Str × List Int) × Str × (Str × (Str ⊕ (List (Int ⊕ (Str ⊕ (List Int)))))))) => some x_.1) (fun (x_ : (Str × List (Str × List Int) × Str × Int × Int)) => some x_.1)))) (ix_sm ix_t30 (ix_sm ix_t40 ix_t50)) (x_var (p := (pSm (pT3 pStr (pM (κ := Str) (pL pInt)) pStr) (pSm (pT4 pStr (pM (κ := Str) (pL pInt)) pStr (pT2 pStr (pSm pStr (pL (pSm pInt (pSm pStr (pL pInt))))))) (pT5 pStr (pM (κ := Str) (pL pInt)) pStr pInt pInt))) a1) 0))) (fun _ => x_str))) (fun (b208 : ((Unit × Str) × Unit)) => s_T (T := none) (s_never)) fun (b208 : ((Unit × Str) × Unit)) => s_T (T := ((Sum.elim (fun (x_ : (Str × List (Str × List Int) × Str)) => some x_.1) (Sum.elim (fun (x_ : (Str × List (Str × List Int) × Str × (Str × (Str ⊕ (List (Int ⊕ (Str ⊕ (List Int)))))))) => some x_.1) (fun (x_ : (Str × List (Str × List Int) × Str × Int × Int)) => some x_.1))) a1).bind fun u209 => if (decide (u209 = ("rule" : Str))) = true then ((Sum.elim (fun (_ : (Str × List (Str × List Int) × Str)) => (none : Option (List (Str × List Int)))) (Sum.elim (fun (x_ : (Str × List (Str × List Int) × Str × (Str × (Str ⊕ (List (Int ⊕ (Str ⊕ (List Int)))))))) => some x_.2.1) (fun (_ : (Str × List (Str × List Int) × Str × Int × Int)) => (none : Option (List (Str × List Int)))))) a1).bind fun u211 => (M_l_copied u211).bind fun r212 => ((Sum.elim (fun (_ : (Str × List (Str × List Int) × Str)) => (none : Option Str)) (Sum.elim (fun (x_ : (Str × List (Str × List Int) × Str × (Str × (Str ⊕ (List (Int ⊕ (Str ⊕ (List Int)))))))) => some x_.2.2.1) (fun (_ : (Str × List (Str × List Int) × Str × Int × Int)) => (none : Option Str)))) a1).bind fun u213 => ((Sum.elim (fun (_ : (Str × List (Str × List Int) × Str)) => (none : Option (Str × (Str ⊕ (List (Int ⊕ (Str ⊕ (List Int)))))))) (Sum.elim (fun (x_ : (Str × List (Str × List Int) × Str × (Str × (Str ⊕ (List (Int ⊕ (Str ⊕ (List Int)))))))) => some x_.2.2.2) (fun (_ : (Str × List (Str × List Int) × Str × Int × Int)) => (none : Option (Str × (Str ⊕ (List (Int ⊕ (Str ⊕ (List Int)))))))))) a1).bind fun u214 => (M_l_certificate_copy u214).bind fun r215 => some (.inr (.inl (("rule" : Str), r212, u213, r215) : ((Str × List (Str × List Int) × Str × (Str × (Str ⊕ (List (Int ⊕ (Str ⊕ (List Int))))))) ⊕ (Str × List (Str × List Int) × Str × Int × Int))) : ((Str × List (Str × List Int) × Str) ⊕ ((Str × List (Str × List Int) × Str × (Str × (Str ⊕ (List (Int ⊕ (Str ⊕ (List Int))))))) ⊕ (Str × List (Str × List Int) × Str × Int × Int)))) else ((Sum.elim (fun (x_ : (Str × List (Str × List Int) × Str)) => some x_.1) (Sum.elim (fun (x_ : (Str × List (Str × List Int) × Str × (Str × (Str ⊕ (List (Int ⊕ (Str ⊕ (List Int)))))))) => some x_.1) (fun (x_ : (Str × List (Str × List Int) × Str × Int × Int)) => some x_.1))) a1).bind fun u216 => if (decide (u216 = ("join" : Str))) = true then ((Sum.elim (fun (_ : (Str × List (Str × List Int) × Str)) => (none : Option (List (Str × List Int)))) (Sum.elim (fun (_ : (Str × List (Str × List Int) × Str × (Str × (Str ⊕ (List (Int ⊕ (Str ⊕ (List Int)))))))) => (none : Option (List (Str × List Int)))) (fun (x_ : (Str × List (Str × List Int) × Str × Int × Int)) => some x_.2.1))) a1).bind fun u218 => (M_l_copied u218).bind fun r219 => ((Sum.elim (fun (_ : (Str × List (Str × List Int) × Str)) => (none : Option Str)) (Sum.elim (fun (_ : (Str × List (Str × List Int) × Str × (Str × (Str ⊕ (List (Int ⊕ (Str ⊕ (List Int)))))))) => (none : Option Str)) (fun (x_ : (Str × List (Str × List Int) × Str × Int × Int)) => some x_.2.2.1))) a1).bind fun u220 => ((Sum.elim (fun (_ : (Str × List (Str × List Int) × Str)) => (none : Option Int)) (Sum.elim (fun (_ : (Str × List (Str × List Int) × Str × (Str × (Str ⊕ (List (Int ⊕ (Str ⊕ (List Int)))))))) => (none : Option Int)) (fun (x_ : (Str × List (Str × List Int) × Str × Int × Int)) => some x_.2.2.2.1))) a1).bind fun u221 => ((Sum.elim (fun (_ : (Str × List (Str × List Int) × Str)) => (none : Option Int)) (Sum.elim (fun (_ : (Str × List (Str × List Int) × Str × (Str × (Str ⊕ (List (Int ⊕ (Str ⊕ (List Int)))))))) => (none : Option Int)) (fun (x_ : (Str × List (Str × List Int) × Str × Int × Int)) => some x_.2.2.2.2))) a1).bind fun u222 => some (.inr (.inr (("join" : Str), r219, u220, u221, u222) : ((Str × List (Str × List Int) × Str × (Str × (Str ⊕ (List (Int ⊕ (Str ⊕ (List Int))))))) ⊕ (Str × List (Str × List Int) × Str × Int × Int))) : ((Str × List (Str × List Int) × Str) ⊕ ((Str × List (Str × List Int) × Str × (Str × (Str ⊕ (List (Int ⊕ (Str ⊕ (List Int))))))) ⊕ (Str × List (Str × List Int) × Str × Int × Int)))) else ((Sum.elim (fun (x_ : (Str × List (Str × List Int) × Str)) => some x_.1) (Sum.elim (fun (x_ : (Str × List (Str × List Int) × Str × (Str × (Str ⊕ (List (Int ⊕ (Str ⊕ (List Int)))))))) => some x_.1) (fun (x_ : (Str × List (Str × List Int) × Str × Int × Int)) => some x_.1))) a1).bind fun u223 => if (decide (u223 = ("worse" : Str))) = true then none else ((Sum.elim (fun (x_ : (Str × List (Str × List Int) × Str)) => some x_.1) (Sum.elim (fun (x_ : (Str × List (Str × List Int) × Str × (Str × (Str ⊕ (List (Int ⊕ (Str ⊕ (List Int)))))))) => some x_.1) (fun (x_ : (Str × List (Str × List Int) × Str × Int × Int)) => some x_.1))) a1).bind fun u225 => ((Sum.elim (fun (x_ : (Str × List (Str × List Int) × Str)) => some x_.2.1) (Sum.elim (fun (x_ : (Str × List (Str × List Int) × Str × (Str × (Str ⊕ (List (Int ⊕ (Str ⊕ (List Int)))))))) => some x_.2.1) (fun (x_ : (Str × List (Str × List Int) × Str × Int × Int)) => some x_.2.1))) a1).bind fun u226 => (M_l_copied u226).bind fun r227 => ((Sum.elim (fun (x_ : (Str × List (Str × List Int) × Str)) => some x_.2.2) (Sum.elim (fun (x_ : (Str × List (Str × List Int) × Str × (Str × (Str ⊕ (List (Int ⊕ (Str ⊕ (List Int)))))))) => some x_.2.2.1) (fun (x_ : (Str × List (Str × List Int) × Str × Int × Int)) => some x_.2.2.1))) a1).bind fun u228 => some (.inl (u225, r227, u228) : ((Str × List (Str × List Int) × Str) ⊕ ((Str × List (Str × List Int) × Str × (Str × (Str ⊕ (List (Int ⊕ (Str ⊕ (List Int))))))) ⊕ (Str × List (Str × List Int) × Str × Int × Int))))) (s_ifT (ins_F _) (t_kd (c := fun (b_ : ((Unit × Str) × Unit)) => (decide (b_.1.2 = ("rule" : Str)))) (t_eqS (x_kd (E := fun (b_ : (Unit × Str)) => pStr b_.2) (x_ixP (P := (pSm (pT3 pStr (pM (κ := Str) (pL pInt)) pStr) (pSm (pT4 pStr (pM (κ := Str) (pL pInt)) pStr (pT2 pStr (pSm pStr (pL (pSm pInt (pSm pStr (pL pInt))))))) (pT5 pStr (pM (κ := Str) (pL pInt)) pStr pInt pInt)))) (E := pStr) 0 (g := (Sum.elim (fun (x_ : (Str × List (Str × List Int) × Str)) => some x_.1) (Sum.elim (fun (x_ : (Str × List (Str × List Int) × Str × (Str × (Str ⊕ (List (Int ⊕ (Str ⊕ (List Int)))))))) => some x_.1) (fun (x_ : (Str × List (Str × List Int) × Str × Int × Int)) => some x_.1)))) (ix_sm ix_t30 (ix_sm ix_t40 ix_t50)) (x_var (p := (pSm (pT3 pStr (pM (κ := Str) (pL pInt)) pStr) (pSm (pT4 pStr (pM (κ := Str) (pL pInt)) pStr (pT2 pStr (pSm pStr (pL (pSm pInt (pSm pStr (pL pInt))))))) (pT5 pStr (pM (κ := Str) (pL pInt)) pStr pInt pInt))) a1) 0))) (fun _ => x_str))) (fun (b210 : ((Unit × Str) × Unit)) => s_T (T := ((Sum.elim (fun (_ : (Str × List (Str × List Int) × Str)) => (none : Option (List (Str × List Int)))) (Sum.elim (fun (x_ : (Str × List (Str × List Int) × Str × (Str × (Str ⊕ (List (Int ⊕ (Str ⊕ (List Int)))))))) => some x_.2.1) (fun (_ : (Str × List (Str × List Int) × Str × Int × Int)) => (none : Option (List (Str × List Int)))))) a1).bind fun u211 => (M_l_copied u211).bind fun r212 => ((Sum.elim (fun (_ : (Str × List (Str × List Int) × Str)) => (none : Option Str)) (Sum.elim (fun (x_ : (Str × List (Str × List Int) × Str × (Str × (Str ⊕ (List (Int ⊕ (Str ⊕ (List Int)))))))) => some x_.2.2.1) (fun (_ : (Str × List (Str × List Int) × Str × Int × Int)) => (none : Option Str)))) a1).bind fun u213 => ((Sum.elim (fun (_ : (Str × List (Str × List Int) × Str)) => (none : Option (Str × (Str ⊕ (List (Int ⊕ (Str ⊕ (List Int)))))))) (Sum.elim (fun (x_ : (Str × List (Str × List Int) × Str × (Str × (Str ⊕ (List (Int ⊕ (Str ⊕ (List Int)))))))) => some x_.2.2.2) (fun (_ : (Str × List (Str × List Int) × Str × Int × Int)) => (none : Option (Str × (Str ⊕ (List (Int ⊕ (Str ⊕ (List Int)))))))))) a1).bind fun u214 => (M_l_certificate_copy u214).bind fun r215 => some (.inr (.inl (("rule" : Str), r212, u213, r215) : ((Str × List (Str × List Int) × Str × (Str × (Str ⊕ (List (Int ⊕ (Str ⊕ (List Int))))))) ⊕ (Str × List (Str × List Int) × Str × Int × Int))) : ((Str × List (Str × List Int) × Str) ⊕ ((Str × List (Str × List Int) × Str × (Str × (Str ⊕ (List (Int ⊕ (Str ⊕ (List Int))))))) ⊕ (Str × List (Str × List Int) × Str × Int × Int))))) (s_ret (P := (fun _ => [])) (Rp := (pSm (pT3 pStr (pM (κ := Str) (pL pInt)) pStr) (pSm (pT4 pStr (pM (κ := Str) (pL pInt)) pStr (pT2 pStr (pSm pStr (pL (pSm pInt (pSm pStr (pL pInt))))))) (pT5 pStr (pM (κ := Str) (pL pInt)) pStr pInt pInt)))) (ι := id) (rv := fun (b : (Unit × (((Unit × (List (Str × List Int))) × (List (Str × List Int))) × ((Unit × Str) × (((Unit × (Str × (Str ⊕ (List (Int ⊕ (Str ⊕ (List Int))))))) × (Str × (Str ⊕ (List (Int ⊕ (Str ⊕ (List Int))))))) × Unit))))) => (.inr (.inl (("rule" : Str), b.2.1.2, b.2.2.1.2, b.2.2.2.1.2) : ((Str × List (Str × List Int) × Str × (Str × (Str ⊕ (List (Int ⊕ (Str ⊕ (List Int))))))) ⊕ (Str × List (Str × List Int) × Str × Int × Int))) : ((Str × List (Str × List Int) × Str) ⊕ ((Str × List (Str × List Int) × Str × (Str × (Str ⊕ (List (Int ⊕ (Str ⊕ (List Int))))))) ⊕ (Str × List (Str × List Int) × Str × Int × Int))))) (fun _ _ _ h => h) (x_kd (co_inr (E := (pT3 pStr (pM (κ := Str) (pL pInt)) pStr)) (G := (pSm (pT4 pStr (pM (κ := Str) (pL pInt)) pStr (pT2 pStr (pSm pStr (pL (pSm pInt (pSm pStr (pL pInt))))))) (pT5 pStr (pM (κ := Str) (pL pInt)) pStr pInt pInt))) (co_inl (E := (pT4 pStr (pM (κ := Str) (pL pInt)) pStr (pT2 pStr (pSm pStr (pL (pSm pInt (pSm pStr (pL pInt)))))))) (G := (pT5 pStr (pM (κ := Str) (pL pInt)) pStr pInt pInt)) (x_kd (E := fun (b_ : (Unit × (((Unit × (List (Str × List Int))) × (List (Str × List Int))) × ((Unit × Str) × (((Unit × (Str × (Str ⊕ (List (Int ⊕ (Str ⊕ (List Int))))))) × (Str × (Str ⊕ (List (Int ⊕ (Str ⊕ (List Int))))))) × Unit))))) => (pT4 pStr (pM (κ := Str) (pL pInt)) pStr (pT2 pStr (pSm pStr (pL (pSm pInt (pSm pStr (pL pInt))))))) (("rule" : Str), b_.2.1.2, b_.2.2.1.2, b_.2.2.2.1.2)) (x_dispHT (Es := fun (b_ : (Unit × (((Unit × (List (Str × List Int))) × (List (Str × List Int))) × ((Unit × Str) × (((Unit × (Str × (Str ⊕ (List (Int ⊕ (Str ⊕ (List Int))))))) × (Str × (Str ⊕ (List (Int ⊕ (Str ⊕ (List Int))))))) × Unit))))) => [pStr ("rule" : Str), (pM (κ := Str) (pL pInt)) b_.2.1.2, pStr b_.2.2.1.2, (pT2 pStr (pSm pStr (pL (pSm pInt (pSm pStr (pL pInt)))))) b_.2.2.2.1.2]) (a_cons x_str (fun _ => a_cons (x_kd (E := fun (b_ : ((Unit × (List (Str × List Int))) × (List (Str × List Int)))) => (pM (κ := Str) (pL pInt)) b_.2) (x_frz (o_kd (E := fun (b_ : ((Unit × (List (Str × List Int))) × (List (Str × List Int)))) => (oM (κ := Str) (pL pInt)) b_.2) (x_F_o (kk := 1) (E1 := (pM (κ := Str) (pL pInt))) k_l_copied (hr.mono (by decide)) g_l_copied F_l_copied.kp b_l_copied (x_kd (E := fun (b_ : (Unit × (List (Str × List Int)))) => (pM (κ := Str) (pL pInt)) b_.2) (x_ixP (P := (pSm (pT3 pStr (pM (κ := Str) (pL pInt)) pStr) (pSm (pT4 pStr (pM (κ := Str) (pL pInt)) pStr (pT2 pStr (pSm pStr (pL (pSm pInt (pSm pStr (pL pInt))))))) (pT5 pStr (pM (κ := Str) (pL pInt)) pStr pInt pInt)))) (E := (pM (κ := Str) (pL pInt))) 1 (g := (Sum.elim (fun (_ : (Str × List (Str × List Int) × Str)) => (none : Option (List (Str × List Int)))) (Sum.elim (fun (x_ : (Str × List (Str × List Int) × Str × (Str × (Str ⊕ (List (Int ⊕ (Str ⊕ (List Int)))))))) => some x_.2.1) (fun (_ : (Str × List (Str × List Int) × Str × Int × Int)) => (none : Option (List (Str × List Int))))))) (ix_sm ix_no (ix_sm ix_t41 ix_no)) (x_var (p := (pSm (pT3 pStr (pM (κ := Str) (pL pInt)) pStr) (pSm (pT4 pStr (pM (κ := Str) (pL pInt)) pStr (pT2 pStr (pSm pStr (pL (pSm pInt (pSm pStr (pL pInt))))))) (pT5 pStr (pM (κ := Str) (pL pInt)) pStr pInt pInt))) a1) 0))))))) (fun _ => a_cons (x_kd (E := fun (b_ : (Unit × Str)) => pStr b_.2) (x_ixP (P := (pSm (pT3 pStr (pM (κ := Str) (pL pInt)) pStr) (pSm (pT4 pStr (pM (κ := Str) (pL pInt)) pStr (pT2 pStr (pSm pStr (pL (pSm pInt (pSm pStr (pL pInt))))))) (pT5 pStr (pM (κ := Str) (pL pInt)) pStr pInt pInt)))) (E := pStr) 2 (g := (Sum.elim (fun (_ : (Str × List (Str × List Int) × Str)) => (none : Option Str)) (Sum.elim (fun (x_ : (Str × List (Str × List Int) × Str × (Str × (Str ⊕ (List (Int ⊕ (Str ⊕ (List Int)))))))) => some x_.2.2.1) (fun (_ : (Str × List (Str × List Int) × Str × Int × Int)) => (none : Option Str))))) (ix_sm ix_no (ix_sm ix_t42 ix_no)) (x_var (p := (pSm (pT3 pStr (pM (κ := Str) (pL pInt)) pStr) (pSm (pT4 pStr (pM (κ := Str) (pL pInt)) pStr (pT2 pStr (pSm pStr (pL (pSm pInt (pSm pStr (pL pInt))))))) (pT5 pStr (pM (κ := Str) (pL pInt)) pStr pInt pInt))) a1) 0))) (fun _ => a_cons (x_kd (E := fun (b_ : ((Unit × (Str × (Str ⊕ (List (Int ⊕ (Str ⊕ (List Int))))))) × (Str × (Str ⊕ (List (Int ⊕ (Str ⊕ (List Int)))))))) => (pT2 pStr (pSm pStr (pL (pSm pInt (pSm pStr (pL pInt)))))) b_.2) (x_F_f (kk := 1) (E1 := (pT2 pStr (pSm pStr (pL (pSm pInt (pSm pStr (pL pInt))))))) k_l_certificate_copy (hr.mono (by decide)) g_l_certificate_copy F_l_certificate_copy.kp b_l_certificate_copy (x_kd (E := fun (b_ : (Unit × (Str × (Str ⊕ (List (Int ⊕ (Str ⊕ (List Int)))))))) => (pT2 pStr (pSm pStr (pL (pSm pInt (pSm pStr (pL pInt)))))) b_.2) (x_ixP (P := (pSm (pT3 pStr (pM (κ := Str) (pL pInt)) pStr) (pSm (pT4 pStr (pM (κ := Str) (pL pInt)) pStr (pT2 pStr (pSm pStr (pL (pSm pInt (pSm pStr (pL pInt))))))) (pT5 pStr (pM (κ := Str) (pL pInt)) pStr pInt pInt)))) (E := (pT2 pStr (pSm pStr (pL (pSm pInt (pSm pStr (pL pInt))))))) 3 (g := (Sum.elim (fun (_ : (Str × List (Str × List Int) × Str)) => (none : Option (Str × (Str ⊕ (List (Int ⊕ (Str ⊕ (List Int)))))))) (Sum.elim (fun (x_ : (Str × List (Str × List Int) × Str × (Str × (Str ⊕ (List (Int ⊕ (Str ⊕ (List Int)))))))) => some x_.2.2.2) (fun (_ : (Str × List (Str × List Int) × Str × Int × Int)) => (none : Option (Str × (Str ⊕ (List (Int ⊕ (Str ⊕ (List Int))))))))))) (ix_sm ix_no (ix_sm ix_t43 ix_no)) (x_var (p := (pSm (pT3 pStr (pM (κ := Str) (pL pInt)) pStr) (pSm (pT4 pStr (pM (κ := Str) (pL pInt)) pStr (pT2 pStr (pSm pStr (pL (pSm pInt (pSm pStr (pL pInt))))))) (pT5 pStr (pM (κ := Str) (pL pInt)) pStr pInt pInt))) a1) 0))))) (fun _ => a_nil))))) (fun _ => by simp)))))) (fun _ => List.Sublist.refl _))) fun (b210 : ((Unit × Str) × Unit)) => s_T (T := ((Sum.elim (fun (x_ : (Str × List (Str × List Int) × Str)) => some x_.1) (Sum.elim (fun (x_ : (Str × List (Str × List Int) × Str × (Str × (Str ⊕ (List (Int ⊕ (Str ⊕ (List Int)))))))) => some x_.1) (fun (x_ : (Str × List (Str × List Int) × Str × Int × Int)) => some x_.1))) a1).bind fun u216 => if (decide (u216 = ("join" : Str))) = true then ((Sum.elim (fun (_ : (Str × List (Str × List Int) × Str)) => (none : Option (List (Str × List Int)))) (Sum.elim (fun (_ : (Str × List (Str × List Int) × Str × (Str × (Str ⊕ (List (Int ⊕ (Str ⊕ (List Int)))))))) => (none : Option (List (Str × List Int)))) (fun (x_ : (Str × List (Str × List Int) × Str × Int × Int)) => some x_.2.1))) a1).bind fun u218 => (M_l_copied u218).bind fun r219 => ((Sum.elim (fun (_ : (Str × List (Str × List Int) × Str)) => (none : Option Str)) (Sum.elim (fun (_ : (Str × List (Str × List Int) × Str × (Str × (Str ⊕ (List (Int ⊕ (Str ⊕ (List Int)))))))) => (none : Option Str)) (fun (x_ : (Str × List (Str × List Int) × Str × Int × Int)) => some x_.2.2.1))) a1).bind fun u220 => ((Sum.elim (fun (_ : (Str × List (Str × List Int) × Str)) => (none : Option Int)) (Sum.elim (fun (_ : (Str × List (Str × List Int) × Str × (Str × (Str ⊕ (List (Int ⊕ (Str ⊕ (List Int)))))))) => (none : Option Int)) (fun (x_ : (Str × List (Str × List Int) × Str × Int × Int)) => some x_.2.2.2.1))) a1).bind fun u221 => ((Sum.elim (fun (_ : (Str × List (Str × List Int) × Str)) => (none : Option Int)) (Sum.elim (fun (_ : (Str × List (Str × List Int) × Str × (Str × (Str ⊕ (List (Int ⊕ (Str ⊕ (List Int)))))))) => (none : Option Int)) (fun (x_ : (Str × List (Str × List Int) × Str × Int × Int)) => some x_.2.2.2.2))) a1).bind fun u222 => some (.inr (.inr (("join" : Str), r219, u220, u221, u222) : ((Str × List (Str × List Int) × Str × (Str × (Str ⊕ (List (Int ⊕ (Str ⊕ (List Int))))))) ⊕ (Str × List (Str × List Int) × Str × Int × Int))) : ((Str × List (Str × List Int) × Str) ⊕ ((Str × List (Str × List Int) × Str × (Str × (Str ⊕ (List (Int ⊕ (Str ⊕ (List Int))))))) ⊕ (Str × List (Str × List Int) × Str × Int × Int)))) else ((Sum.elim (fun (x_ : (Str × List (Str × List Int) × Str)) => some x_.1) (Sum.elim (fun (x_ : (Str × List (Str × List Int) × Str × (Str × (Str ⊕ (List (Int ⊕ (Str ⊕ (List Int)))))))) => some x_.1) (fun (x_ : (Str × List (Str × List Int) × Str × Int × Int)) => some x_.1))) a1).bind fun u223 => if (decide (u223 = ("worse" : Str))) = true then none else ((Sum.elim (fun (x_ : (Str × List (Str × List Int) × Str)) => some x_.1) (Sum.elim (fun (x_ : (Str × List (Str × List Int) × Str × (Str × (Str ⊕ (List (Int ⊕ (Str ⊕ (List Int)))))))) => some x_.1) (fun (x_ : (Str × List (Str × List Int) × Str × Int × Int)) => some x_.1))) a1).bind fun u225 => ((Sum.elim (fun (x_ : (Str × List (Str × List Int) × Str)) => some x_.2.1) (Sum.elim (fun (x_ : (Str × List (Str × List Int) × Str × (Str × (Str ⊕ (List (Int ⊕ (Str ⊕ (List Int)))))))) => some x_.2.1) (fun (x_ : (Str × List (Str × List Int) × Str × Int × Int)) => some x_.2.1))) a1).bind fun u226 => (M_l_copied u226).bind fun r227 => ((Sum.elim (fun (x_ : (Str × List (Str × List Int) × Str)) => some x_.2.2) (Sum.elim (fun (x_ : (Str × List (Str × List Int) × Str × (Str × (Str ⊕ (List (Int ⊕ (Str ⊕ (List Int)))))))) => some x_.2.2.1) (fun (x_ : (Str × List (Str × List Int) × Str × Int × Int)) => some x_.2.2.1))) a1).bind fun u228 => some (.inl (u225, r227, u228) : ((Str × List (Str × List Int) × Str) ⊕ ((Str × List (Str × List Int) × Str × (Str × (Str ⊕ (List (Int ⊕ (Str ⊕ (List Int))))))) ⊕ (Str × List (Str × List Int) × Str × Int × Int))))) (s_ifT (ins_F _) (t_kd (c := fun (b_ : ((Unit × Str) × Unit)) => (decide (b_.1.2 = ("join" : Str)))) (t_eqS (x_kd (E := fun (b_ : (Unit × Str)) => pStr b_.2) (x_ixP (P := (pSm (pT3 pStr (pM (κ := Str) (pL pInt)) pStr) (pSm (pT4 pStr (pM (κ := Str) (pL pInt)) pStr (pT2 pStr (pSm pStr (pL (pSm pInt (pSm pStr (pL pInt))))))) (pT5 pStr (pM (κ := Str) (pL pInt)) pStr pInt pInt)))) (E := pStr) 0 (g := (Sum.elim (fun (x_ : (Str × List (Str × List Int) × Str)) => some x_.1) (Sum.elim (fun (x_ : (Str × List (Str × List Int) × Str × (Str × (Str ⊕ (List (Int ⊕ (Str ⊕ (List Int)))))))) => some x_.1) (fun (x_ : (Str × List (Str × List Int) × Str × Int × Int)) => some x_.1)))) (ix_sm ix_t30 (ix_sm ix_t40 ix_t50)) (x_var (p := (pSm (pT3 pStr (pM (κ := Str) (pL pInt)) pStr) (pSm (pT4 pStr (pM (κ := Str) (pL pInt)) pStr (pT2 pStr (pSm pStr (pL (pSm pInt (pSm pStr (pL pInt))))))) (pT5 pStr (pM (κ := Str) (pL pInt)) pStr pInt pInt))) a1) 0))) (fun _ => x_str))) (fun (b217 : ((Unit × Str) × Unit)) => s_T (T := ((Sum.elim (fun (_ : (Str × List (Str × List Int) × Str)) => (none : Option (List (Str × List Int)))) (Sum.elim (fun (_ : (Str × List (Str × List Int) × Str × (Str × (Str ⊕ (List (Int ⊕ (Str ⊕ (List Int)))))))) => (none : Option (List (Str × List Int)))) (fun (x_ : (Str × List (Str × List Int) × Str × Int × Int)) => some x_.2.1))) a1).bind fun u218 => (M_l_copied u218).bind fun r219 => ((Sum.elim (fun (_ : (Str × List (Str × List Int) × Str)) => (none : Option Str)) (Sum.elim (fun (_ : (Str × List (Str × List Int) × Str × (Str × (Str ⊕ (List (Int ⊕ (Str ⊕ (List Int)))))))) => (none : Option Str)) (fun (x_ : (Str × List (Str × List Int) × Str × Int × Int)) => some x_.2.2.1))) a1).bind fun u220 => ((Sum.elim (fun (_ : (Str × List (Str × List Int) × Str)) => (none : Option Int)) (Sum.elim (fun (_ : (Str × List (Str × List Int) × Str × (Str × (Str ⊕ (List (Int ⊕ (Str ⊕ (List Int)))))))) => (none : Option Int)) (fun (x_ : (Str × List (Str × List Int) × Str × Int × Int)) => some x_.2.2.2.1))) a1).bind fun u221 => ((Sum.elim (fun (_ : (Str × List (Str × List Int) × Str)) => (none : Option Int)) (Sum.elim (fun (_ : (Str × List (Str × List Int) × Str × (Str × (Str ⊕ (List (Int ⊕ (Str ⊕ (List Int)))))))) => (none : Option Int)) (fun (x_ : (Str × List (Str × List Int) × Str × Int × Int)) => some x_.2.2.2.2))) a1).bind fun u222 => some (.inr (.inr (("join" : Str), r219, u220, u221, u222) : ((Str × List (Str × List Int) × Str × (Str × (Str ⊕ (List (Int ⊕ (Str ⊕ (List Int))))))) ⊕ (Str × List (Str × List Int) × Str × Int × Int))) : ((Str × List (Str × List Int) × Str) ⊕ ((Str × List (Str × List Int) × Str × (Str × (Str ⊕ (List (Int ⊕ (Str ⊕ (List Int))))))) ⊕ (Str × List (Str × List Int) × Str × Int × Int))))) (s_ret (P := (fun _ => [])) (Rp := (pSm (pT3 pStr (pM (κ := Str) (pL pInt)) pStr) (pSm (pT4 pStr (pM (κ := Str) (pL pInt)) pStr (pT2 pStr (pSm pStr (pL (pSm pInt (pSm pStr (pL pInt))))))) (pT5 pStr (pM (κ := Str) (pL pInt)) pStr pInt pInt)))) (ι := id) (rv := fun (b : (Unit × (((Unit × (List (Str × List Int))) × (List (Str × List Int))) × ((Unit × Str) × ((Unit × Int) × ((Unit × Int) × Unit)))))) => (.inr (.inr (("join" : Str), b.2.1.2, b.2.2.1.2, b.2.2.2.1.2, b.2.2.2.2.1.2) : ((Str × List (Str × List Int) × Str × (Str × (Str ⊕ (List (Int ⊕ (Str ⊕ (List Int))))))) ⊕ (Str × List (Str × List Int) × Str × Int × Int))) : ((Str × List (Str × List Int) × Str) ⊕ ((Str × List (Str × List Int) × Str × (Str × (Str ⊕ (List (Int ⊕ (Str ⊕ (List Int))))))) ⊕ (Str × List (Str × List Int) × Str × Int × Int))))) (fun _ _ _ h => h) (x_kd (co_inr (E := (pT3 pStr (pM (κ := Str) (pL pInt)) pStr)) (G := (pSm (pT4 pStr (pM (κ := Str) (pL pInt)) pStr (pT2 pStr (pSm pStr (pL (pSm pInt (pSm pStr (pL pInt))))))) (pT5 pStr (pM (κ := Str) (pL pInt)) pStr pInt pInt))) (co_inr (E := (pT4 pStr (pM (κ := Str) (pL pInt)) pStr (pT2 pStr (pSm pStr (pL (pSm pInt (pSm pStr (pL pInt)))))))) (G := (pT5 pStr (pM (κ := Str) (pL pInt)) pStr pInt pInt)) (x_kd (E := fun (b_ : (Unit × (((Unit × (List (Str × List Int))) × (List (Str × List Int))) × ((Unit × Str) × ((Unit × Int) × ((Unit × Int) × Unit)))))) => (pT5 pStr (pM (κ := Str) (pL pInt)) pStr pInt pInt) (("join" : Str), b_.2.1.2, b_.2.2.1.2, b_.2.2.2.1.2, b_.2.2.2.2.1.2)) (x_dispHT (Es := fun (b_ : (Unit × (((Unit × (List (Str × List Int))) × (List (Str × List Int))) × ((Unit × Str) × ((Unit × Int) × ((Unit × Int) × Unit)))))) => [pStr ("join" : Str), (pM (κ := Str) (pL pInt)) b_.2.1.2, pStr b_.2.2.1.2, pInt b_.2.2.2.1.2, pInt b_.2.2.2.2.1.2]) (a_cons x_str (fun _ => a_cons (x_kd (E := fun (b_ : ((Unit × (List (Str × List Int))) × (List (Str × List Int)))) => (pM (κ := Str) (pL pInt)) b_.2) (x_frz (o_kd (E := fun (b_ : ((Unit × (List (Str × List Int))) × (List (Str × List Int)))) => (oM (κ := Str) (pL pInt)) b_.2) (x_F_o (kk := 1) (E1 := (pM (κ := Str) (pL pInt))) k_l_copied (hr.mono (by decide)) g_l_copied F_l_copied.kp b_l_copied (x_kd (E := fun (b_ : (Unit × (List (Str × List Int)))) => (pM (κ := Str) (pL pInt)) b_.2) (x_ixP (P := (pSm (pT3 pStr (pM (κ := Str) (pL pInt)) pStr) (pSm (pT4 pStr (pM (κ := Str) (pL pInt)) pStr (pT2 pStr (pSm pStr (pL (pSm pInt (pSm pStr (pL pInt))))))) (pT5 pStr (pM (κ := Str) (pL pInt)) pStr pInt pInt)))) (E := (pM (κ := Str) (pL pInt))) 1 (g := (Sum.elim (fun (_ : (Str × List (Str × List Int) × Str)) => (none : Option (List (Str × List Int)))) (Sum.elim (fun (_ : (Str × List (Str × List Int) × Str × (Str × (Str ⊕ (List (Int ⊕ (Str ⊕ (List Int)))))))) => (none : Option (List (Str × List Int)))) (fun (x_ : (Str × List (Str × List Int) × Str × Int × Int)) => some x_.2.1)))) (ix_sm ix_no (ix_sm ix_no ix_t51)) (x_var (p := (pSm (pT3 pStr (pM (κ := Str) (pL pInt)) pStr) (pSm (pT4 pStr (pM (κ := Str) (pL pInt)) pStr (pT2 pStr (pSm pStr (pL (pSm pInt (pSm pStr (pL pInt))))))) (pT5 pStr (pM (κ := Str) (pL pInt)) pStr pInt pInt))) a1) 0))))))) (fun _ => a_cons (x_kd (E := fun (b_ : (Unit × Str)) => pStr b_.2) (x_ixP (P := (pSm (pT3 pStr (pM (κ := Str) (pL pInt)) pStr) (pSm (pT4 pStr (pM (κ := Str) (pL pInt)) pStr (pT2 pStr (pSm pStr (pL (pSm pInt (pSm pStr (pL pInt))))))) (pT5 pStr (pM (κ := Str) (pL pInt)) pStr pInt pInt)))) (E := pStr) 2 (g := (Sum.elim (fun (_ : (Str × List (Str × List Int) × Str)) => (none : Option Str)) (Sum.elim (fun (_ : (Str × List (Str × List Int) × Str × (Str × (Str ⊕ (List (Int ⊕ (Str ⊕ (List Int)))))))) => (none : Option Str)) (fun (x_ : (Str × List (Str × List Int) × Str × Int × Int)) => some x_.2.2.1)))) (ix_sm ix_no (ix_sm ix_no ix_t52)) (x_var (p := (pSm (pT3 pStr (pM (κ := Str) (pL pInt)) pStr) (pSm (pT4 pStr (pM (κ := Str) (pL pInt)) pStr (pT2 pStr (pSm pStr (pL (pSm pInt (pSm pStr (pL pInt))))))) (pT5 pStr (pM (κ := Str) (pL pInt)) pStr pInt pInt))) a1) 0))) (fun _ => a_cons (x_kd (E := fun (b_ : (Unit × Int)) => pInt b_.2) (x_ixP (P := (pSm (pT3 pStr (pM (κ := Str) (pL pInt)) pStr) (pSm (pT4 pStr (pM (κ := Str) (pL pInt)) pStr (pT2 pStr (pSm pStr (pL (pSm pInt (pSm pStr (pL pInt))))))) (pT5 pStr (pM (κ := Str) (pL pInt)) pStr pInt pInt)))) (E := pInt) 3 (g := (Sum.elim (fun (_ : (Str × List (Str × List Int) × Str)) => (none : Option Int)) (Sum.elim (fun (_ : (Str × List (Str × List Int) × Str × (Str × (Str ⊕ (List (Int ⊕ (Str ⊕ (List Int)))))))) => (none : Option Int)) (fun (x_ : (Str × List (Str × List Int) × Str × Int × Int)) => some x_.2.2.2.1)))) (ix_sm ix_no (ix_sm ix_no ix_t53)) (x_var (p := (pSm (pT3 pStr (pM (κ := Str) (pL pInt)) pStr) (pSm (pT4 pStr (pM (κ := Str) (pL pInt)) pStr (pT2 pStr (pSm pStr (pL (pSm pInt (pSm pStr (pL pInt))))))) (pT5 pStr (pM (κ := Str) (pL pInt)) pStr pInt pInt))) a1) 0))) (fun _ => a_cons (x_kd (E := fun (b_ : (Unit × Int)) => pInt b_.2) (x_ixP (P := (pSm (pT3 pStr (pM (κ := Str) (pL pInt)) pStr) (pSm (pT4 pStr (pM (κ := Str) (pL pInt)) pStr (pT2 pStr (pSm pStr (pL (pSm pInt (pSm pStr (pL pInt))))))) (pT5 pStr (pM (κ := Str) (pL pInt)) pStr pInt pInt)))) (E := pInt) 4 (g := (Sum.elim (fun (_ : (Str × List (Str × List Int) × Str)) => (none : Option Int)) (Sum.elim (fun (_ : (Str × List (Str × List Int) × Str × (Str × (Str ⊕ (List (Int ⊕ (Str ⊕ (List Int)))))))) => (none : Option Int)) (fun (x_ : (Str × List (Str × List Int) × Str × Int × Int)) => some x_.2.2.2.2)))) (ix_sm ix_no (ix_sm ix_no ix_t54)) (x_var (p := (pSm (pT3 pStr (pM (κ := Str) (pL pInt)) pStr) (pSm (pT4 pStr (pM (κ := Str) (pL pInt)) pStr (pT2 pStr (pSm pStr (pL (pSm pInt (pSm pStr (pL pInt))))))) (pT5 pStr (pM (κ := Str) (pL pInt)) pStr pInt pInt))) a1) 0))) (fun _ => a_nil)))))) (fun _ => by simp)))))) (fun _ => List.Sublist.refl _))) fun (b217 : ((Unit × Str) × Unit)) => s_T (T := ((Sum.elim (fun (x_ : (Str × List (Str × List Int) × Str)) => some x_.1) (Sum.elim (fun (x_ : (Str × List (Str × List Int) × Str × (Str × (Str ⊕ (List (Int ⊕ (Str ⊕ (List Int)))))))) => some x_.1) (fun (x_ : (Str × List (Str × List Int) × Str × Int × Int)) => some x_.1))) a1).bind fun u223 => if (decide (u223 = ("worse" : Str))) = true then none else ((Sum.elim (fun (x_ : (Str × List (Str × List Int) × Str)) => some x_.1) (Sum.elim (fun (x_ : (Str × List (Str × List Int) × Str × (Str × (Str ⊕ (List (Int ⊕ (Str ⊕ (List Int)))))))) => some x_.1) (fun (x_ : (Str × List (Str × List Int) × Str × Int × Int)) => some x_.1))) a1).bind fun u225 => ((Sum.elim (fun (x_ : (Str × List (Str × List Int) × Str)) => some x_.2.1) (Sum.elim (fun (x_ : (Str × List (Str × List Int) × Str × (Str × (Str ⊕ (List (Int ⊕ (Str ⊕ (List Int)))))))) => some x_.2.1) (fun (x_ : (Str × List (Str × List Int) × Str × Int × Int)) => some x_.2.1))) a1).bind fun u226 => (M_l_copied u226).bind fun r227 => ((Sum.elim (fun (x_ : (Str × List (Str × List Int) × Str)) => some x_.2.2) (Sum.elim (fun (x_ : (Str × List (Str × List Int) × Str × (Str × (Str ⊕ (List (Int ⊕ (Str ⊕ (List Int)))))))) => some x_.2.2.1) (fun (x_ : (Str × List (Str × List Int) × Str × Int × Int)) => some x_.2.2.1))) a1).bind fun u228 => some (.inl (u225, r227, u228) : ((Str × List (Str × List Int) × Str) ⊕ ((Str × List (Str × List Int) × Str × (Str × (Str ⊕ (List (Int ⊕ (Str ⊕ (List Int))))))) ⊕ (Str × List (Str × List Int) × Str × Int × Int))))) (s_ifT (ins_F _) (t_kd (c := fun (b_ : ((Unit × Str) × Unit)) => (decide (b_.1.2 = ("worse" : Str)))) (t_eqS (x_kd (E := fun (b_ : (Unit × Str)) => pStr b_.2) (x_ixP (P := (pSm (pT3 pStr (pM (κ := Str) (pL pInt)) pStr) (pSm (pT4 pStr (pM (κ := Str) (pL pInt)) pStr (pT2 pStr (pSm pStr (pL (pSm pInt (pSm pStr (pL pInt))))))) (pT5 pStr (pM (κ := Str) (pL pInt)) pStr pInt pInt)))) (E := pStr) 0 (g := (Sum.elim (fun (x_ : (Str × List (Str × List Int) × Str)) => some x_.1) (Sum.elim (fun (x_ : (Str × List (Str × List Int) × Str × (Str × (Str ⊕ (List (Int ⊕ (Str ⊕ (List Int)))))))) => some x_.1) (fun (x_ : (Str × List (Str × List Int) × Str × Int × Int)) => some x_.1)))) (ix_sm ix_t30 (ix_sm ix_t40 ix_t50)) (x_var (p := (pSm (pT3 pStr (pM (κ := Str) (pL pInt)) pStr) (pSm (pT4 pStr (pM (κ := Str) (pL pInt)) pStr (pT2 pStr (pSm pStr (pL (pSm pInt (pSm pStr (pL pInt))))))) (pT5 pStr (pM (κ := Str) (pL pInt)) pStr pInt pInt))) a1) 0))) (fun _ => x_str))) (fun (b224 : ((Unit × Str) × Unit)) => s_T (T := none) (s_never)) fun (b224 : ((Unit × Str) × Unit)) => s_T (T := ((Sum.elim (fun (x_ : (Str × List (Str × List Int) × Str)) => some x_.1) (Sum.elim (fun (x_ : (Str × List (Str × List Int) × Str × (Str × (Str ⊕ (List (Int ⊕ (Str ⊕ (List Int)))))))) => some x_.1) (fun (x_ : (Str × List (Str × List Int) × Str × Int × Int)) => some x_.1))) a1).bind fun u225 => ((Sum.elim (fun (x_ : (Str × List (Str × List Int) × Str)) => some x_.2.1) (Sum.elim (fun (x_ : (Str × List (Str × List Int) × Str × (Str × (Str ⊕ (List (Int ⊕ (Str ⊕ (List Int)))))))) => some x_.2.1) (fun (x_ : (Str × List (Str × List Int) × Str × Int × Int)) => some x_.2.1))) a1).bind fun u226 => (M_l_copied u226).bind fun r227 => ((Sum.elim (fun (x_ : (Str × List (Str × List Int) × Str)) => some x_.2.2) (Sum.elim (fun (x_ : (Str × List (Str × List Int) × Str × (Str × (Str ⊕ (List (Int ⊕ (Str ⊕ (List Int)))))))) => some x_.2.2.1) (fun (x_ : (Str × List (Str × List Int) × Str × Int × Int)) => some x_.2.2.1))) a1).bind fun u228 => some (.inl (u225, r227, u228) : ((Str × List (Str × List Int) × Str) ⊕ ((Str × List (Str × List Int) × Str × (Str × (Str ⊕ (List (Int ⊕ (Str ⊕ (List Int))))))) ⊕ (Str × List (Str × List Int) × Str × Int × Int))))) (s_ret (P := (fun _ => [])) (Rp := (pSm (pT3 pStr (pM (κ := Str) (pL pInt)) pStr) (pSm (pT4 pStr (pM (κ := Str) (pL pInt)) pStr (pT2 pStr (pSm pStr (pL (pSm pInt (pSm pStr (pL pInt))))))) (pT5 pStr (pM (κ := Str) (pL pInt)) pStr pInt pInt)))) (ι := id) (rv := fun (b : ((Unit × Str) × (((Unit × (List (Str × List Int))) × (List (Str × List Int))) × ((Unit × Str) × Unit)))) => (.inl (b.1.2, b.2.1.2, b.2.2.1.2) : ((Str × List (Str × List Int) × Str) ⊕ ((Str × List (Str × List Int) × Str × (Str × (Str ⊕ (List (Int ⊕ (Str ⊕ (List Int))))))) ⊕ (Str × List (Str × List Int) × Str × Int × Int))))) (fun _ _ _ h => h) (x_kd (co_inl (E := (pT3 pStr (pM (κ := Str) (pL pInt)) pStr)) (G := (pSm (pT4 pStr (pM (κ := Str) (pL pInt)) pStr (pT2 pStr (pSm pStr (pL (pSm pInt (pSm pStr (pL pInt))))))) (pT5 pStr (pM (κ := Str) (pL pInt)) pStr pInt pInt))) (x_kd (E := fun (b_ : ((Unit × Str) × (((Unit × (List (Str × List Int))) × (List (Str × List Int))) × ((Unit × Str) × Unit)))) => (pT3 pStr (pM (κ := Str) (pL pInt)) pStr) (b_.1.2, b_.2.1.2, b_.2.2.1.2)) (x_tp3 pStr (pM (κ := Str) (pL pInt)) pStr (fun (b : ((Unit × Str) × (((Unit × (List (Str × List Int))) × (List (Str × List Int))) × ((Unit × Str) × Unit)))) => b.1.2) (fun (b : ((Unit × Str) × (((Unit × (List (Str × List Int))) × (List (Str × List Int))) × ((Unit × Str) × Unit)))) => b.2.1.2) (fun (b : ((Unit × Str) × (((Unit × (List (Str × List Int))) × (List (Str × List Int))) × ((Unit × Str) × Unit)))) => b.2.2.1.2) (pa_kd (a_cons (x_kd (E := fun (b_ : (Unit × Str)) => pStr b_.2) (x_ixP (P := (pSm (pT3 pStr (pM (κ := Str) (pL pInt)) pStr) (pSm (pT4 pStr (pM (κ := Str) (pL pInt)) pStr (pT2 pStr (pSm pStr (pL (pSm pInt (pSm pStr (pL pInt))))))) (pT5 pStr (pM (κ := Str) (pL pInt)) pStr pInt pInt)))) (E := pStr) 0 (g := (Sum.elim (fun (x_ : (Str × List (Str × List Int) × Str)) => some x_.1) (Sum.elim (fun (x_ : (Str × List (Str × List Int) × Str × (Str × (Str ⊕ (List (Int ⊕ (Str ⊕ (List Int)))))))) => some x_.1) (fun (x_ : (Str × List (Str × List Int) × Str × Int × Int)) => some x_.1)))) (ix_sm ix_t30 (ix_sm ix_t40 ix_t50)) (x_var (p := (pSm (pT3 pStr (pM (κ := Str) (pL pInt)) pStr) (pSm (pT4 pStr (pM (κ := Str) (pL pInt)) pStr (pT2 pStr (pSm pStr (pL (pSm pInt (pSm pStr (pL pInt))))))) (pT5 pStr (pM (κ := Str) (pL pInt)) pStr pInt pInt))) a1) 0))) (fun _ => a_cons (x_kd (E := fun (b_ : ((Unit × (List (Str × List Int))) × (List (Str × List Int)))) => (pM (κ := Str) (pL pInt)) b_.2) (x_frz (o_kd (E := fun (b_ : ((Unit × (List (Str × List Int))) × (List (Str × List Int)))) => (oM (κ := Str) (pL pInt)) b_.2) (x_F_o (kk := 1) (E1 := (pM (κ := Str) (pL pInt))) k_l_copied (hr.mono (by decide)) g_l_copied F_l_copied.kp b_l_copied (x_kd (E := fun (b_ : (Unit × (List (Str × List Int)))) => (pM (κ := Str) (pL pInt)) b_.2) (x_ixP (P := (pSm (pT3 pStr (pM (κ := Str) (pL pInt)) pStr) (pSm (pT4 pStr (pM (κ := Str) (pL pInt)) pStr (pT2 pStr (pSm pStr (pL (pSm pInt (pSm pStr (pL pInt))))))) (pT5 pStr (pM (κ := Str) (pL pInt)) pStr pInt pInt)))) (E := (pM (κ := Str) (pL pInt))) 1 (g := (Sum.elim (fun (x_ : (Str × List (Str × List Int) × Str)) => some x_.2.1) (Sum.elim (fun (x_ : (Str × List (Str × List Int) × Str × (Str × (Str ⊕ (List (Int ⊕ (Str ⊕ (List Int)))))))) => some x_.2.1) (fun (x_ : (Str × List (Str × List Int) × Str × Int × Int)) => some x_.2.1)))) (ix_sm ix_t31 (ix_sm ix_t41 ix_t51)) (x_var (p := (pSm (pT3 pStr (pM (κ := Str) (pL pInt)) pStr) (pSm (pT4 pStr (pM (κ := Str) (pL pInt)) pStr (pT2 pStr (pSm pStr (pL (pSm pInt (pSm pStr (pL pInt))))))) (pT5 pStr (pM (κ := Str) (pL pInt)) pStr pInt pInt))) a1) 0))))))) (fun _ => a_cons (x_kd (E := fun (b_ : (Unit × Str)) => pStr b_.2) (x_ixP (P := (pSm (pT3 pStr (pM (κ := Str) (pL pInt)) pStr) (pSm (pT4 pStr (pM (κ := Str) (pL pInt)) pStr (pT2 pStr (pSm pStr (pL (pSm pInt (pSm pStr (pL pInt))))))) (pT5 pStr (pM (κ := Str) (pL pInt)) pStr pInt pInt)))) (E := pStr) 2 (g := (Sum.elim (fun (x_ : (Str × List (Str × List Int) × Str)) => some x_.2.2) (Sum.elim (fun (x_ : (Str × List (Str × List Int) × Str × (Str × (Str ⊕ (List (Int ⊕ (Str ⊕ (List Int)))))))) => some x_.2.2.1) (fun (x_ : (Str × List (Str × List Int) × Str × Int × Int)) => some x_.2.2.1)))) (ix_sm ix_t32 (ix_sm ix_t42 ix_t52)) (x_var (p := (pSm (pT3 pStr (pM (κ := Str) (pL pInt)) pStr) (pSm (pT4 pStr (pM (κ := Str) (pL pInt)) pStr (pT2 pStr (pSm pStr (pL (pSm pInt (pSm pStr (pL pInt))))))) (pT5 pStr (pM (κ := Str) (pL pInt)) pStr pInt pInt))) a1) 0))) (fun _ => a_nil))))))))) (fun _ => List.Sublist.refl _))))))) (by unfold M_l_line_copy; rfl)
end
end My
end
section
set_option maxHeartbeats 4000000
set_option synthInstance.maxSize 2000
namespace My
open PySem PySem.Spec PyProof.Rows L2 L3
section
variable {P : Program} {w : World} {K : PySem.W.Frag} {mg : Str → Option Value} {base : Heap}
theorem sc_l_ascending : FnScope ["_law_names", "_law_found", "_law_name", "_law_at", "_law_other"] ["_law_names"] (defScope (top 21)) := ⟨rfl, rfl, rfl, by decide +kernel, rfl, by decide +kernel, by decide +kernel⟩
theorem ok_l_ascending {f : Addr} {fd : FuncData} (C : Ev P K mg) (FD : FnP K "_law_ascending" (top 21) f fd)   : FnOk P w K mg base CX0 1 f fd ["_law_names"] (Sp_F_f (pL pStr) M_l_ascending (pL pStr)) := by
  refine fn_F_f FD sc_l_ascending rfl fun cdv A outer s H E hr  a1 => ?_
  exact s_is (s_T (T := (some ([] : List Str)).bind fun x229 => (forS a1 (x229 : (List Str)) fun x233 s232 => (some ((0 : Int) : Int)).bind fun x235 => (forS s232 (x235 : Int) fun x239 s238 => (if (ltS x239 x233) = true then (some ((s238 + (1 : Int)) : Int)).bind fun x245 => some x245 else some s238).bind fun s244 => some s244).bind fun s240 => grd ((cutL s232 none (some s240)).length + ([x233]).length ≤ sizeLine) (grd (((cutL s232 none (some s240)) ++ ([x233])).length + (cutL s232 (some s240) none).length ≤ sizeLine) ((some ((((cutL s232 none (some s240)) ++ ([x233])) ++ (cutL s232 (some s240) none)) : List Str)).bind fun x241 => some x241))).bind fun s234 => some s234) (s_let (i := 1) (pL pStr) sc_l_ascending.nd (x_kd (E := fun (b_ : Unit) => (pL pStr) ([])) (x_frz (o_kd (E := fun (b_ : Unit) => (oL pStr) ([])) (x_nil pStr)))) fun (b230 : Unit) x229 => s_T (T := (forS a1 (x229 : (List Str)) fun x233 s232 => (some ((0 : Int) : Int)).bind fun x235 => (forS s232 (x235 : Int) fun x239 s238 => (if (ltS x239 x233) = true then (some ((s238 + (1 : Int)) : Int)).bind fun x245 => some x245 else some s238).bind fun s244 => some s244).bind fun s240 => grd ((cutL s232 none (some s240)).length + ([x233]).length ≤ sizeLine) (grd (((cutL s232 none (some s240)) ++ ([x233])).length + (cutL s232 (some s240) none).length ≤ sizeLine) ((some ((((cutL s232 none (some s240)) ++ ([x233])) ++ (cutL s232 (some s240) none)) : List Str)).bind fun x241 => some x241))).bind fun s234 => some s234) (s_forS PassesOwn.never (fun (b_ : Unit) (s_ : (List Str)) => ([some ((pL pStr) a1), some ((pL pStr) s_), none, none, none], [])) (fun (b_ : Unit) => x229) (i_list (x_var (p := (pL pStr) a1) 0)) (pg_name (i := 2) sc_l_ascending.nd rfl (by first | exact .inl rfl | exact .inr rfl)) (tg_name 2) (fun _ => ⟨rfl, rfl, trivial⟩) (fun _ => List.Sublist.refl _) (fun b231 x233 s232 => s_T (T := (some ((0 : Int) : Int)).bind fun x235 => (forS s232 (x235 : Int) fun x239 s238 => (if (ltS x239 x233) = true then (some ((s238 + (1 : Int)) : Int)).bind fun x245 => some x245 else some s238).bind fun s244 => some s244).bind fun s240 => grd ((cutL s232 none (some s240)).length + ([x233]).length ≤ sizeLine) (grd (((cutL s232 none (some s240)) ++ ([x233])).length + (cutL s232 (some s240) none).length ≤ sizeLine) ((some ((((cutL s232 none (some s240)) ++ ([x233])) ++ (cutL s232 (some s240) none)) : List Str)).bind fun x241 => some x241))) (s_let (i := 3) pInt sc_l_ascending.nd (x_int (i := 0)) fun (b236 : Unit) x235 => s_T (T := (forS s232 (x235 : Int) fun x239 s238 => (if (ltS x239 x233) = true then (some ((s238 + (1 : Int)) : Int)).bind fun x245 => some x245 else some s238).bind fun s244 => some s244).bind fun s240 => grd ((cutL s232 none (some s240)).length + ([x233]).length ≤ sizeLine) (grd (((cutL s232 none (some s240)) ++ ([x233])).length + (cutL s232 (some s240) none).length ≤ sizeLine) ((some ((((cutL s232 none (some s240)) ++ ([x233])) ++ (cutL s232 (some s240) none)) : List Str)).bind fun x241 => some x241))) (s_forS PassesOwn.never (fun (b_ : Unit) (s_ : Int) => ([some ((pL pStr) a1), some ((pL pStr) s232), some (pStr x233), some (pInt s_), none], [])) (fun (b_ : Unit) => x235) (i_list (x_var (p := (pL pStr) s232) 1)) (pg_name (i := 4) sc_l_ascending.nd rfl (by first | exact .inl rfl | exact .inr rfl)) (tg_name 4) (fun _ => ⟨rfl, rfl, rfl, rfl, trivial⟩) (fun _ => List.Sublist.refl _) (fun b237 x239 s238 => s_T (T := (if (ltS x239 x233) = true then (some ((s238 + (1 : Int)) : Int)).bind fun x245 => some x245 else some s238).bind fun s244 => some s244) (s_ifN (C := fun s_ : Int => ([some ((pL pStr) a1), some ((pL pStr) s232), some (pStr x233), some (pInt s_), some (pStr x239)], [])) (t_kd (c := fun (b_ : (Unit × Unit)) => (ltS x239 x233)) (t_ltS (x_var (p := pStr x239) 4) (fun _ => x_var (p := pStr x233) 2))) (fun (b243 : (Unit × Unit)) => s_T (T := (some ((s238 + (1 : Int)) : Int)).bind fun x245 => some x245) (s_let (i := 3) pInt sc_l_ascending.nd (x_kd (E := fun (b_ : (Unit × Unit)) => pInt (s238 + (1 : Int))) (x_add (x_var (p := pInt s238) 3) (fun _ => x_int (i := 1)))) fun (b246 : (Unit × Unit)) x245 => s_end x245 rfl ⟨rfl, rfl, rfl, rfl, rfl, trivial⟩ (List.Sublist.refl _))) (fun (b243 : (Unit × Unit)) => s_end s238 rfl ⟨rfl, rfl, rfl, rfl, rfl, trivial⟩ (List.Sublist.refl _)) fun (b243 : (Unit × Unit)) s244 => s_end s244 rfl ⟨rfl, rfl, rfl, rfl, trivial⟩ (List.Sublist.refl _))) fun b237 s240 => s_T (T := grd ((cutL s232 none (some s240)).length + ([x233]).length ≤ sizeLine) (grd (((cutL s232 none (some s240)) ++ ([x233])).length + (cutL s232 (some s240) none).length ≤ sizeLine) ((some ((((cutL s232 none (some s240)) ++ ([x233])) ++ (cutL s232 (some s240) none)) : List Str)).bind fun x241 => some x241))) (s_let (i := 1) (pL pStr) sc_l_ascending.nd (x_kd (E := fun (b_ : (((Unit × (Unit × Unit)) × (Unit × Unit)) × (Unit × (Unit × Unit)))) => (pL pStr) (((cutL s232 none (some s240)) ++ ([x233])) ++ (cutL s232 (some s240) none))) (x_frz (o_kd (E := fun (b_ : (((Unit × (Unit × Unit)) × (Unit × Unit)) × (Unit × (Unit × Unit)))) => (oL pStr) (((cutL s232 none (some s240)) ++ ([x233])) ++ (cutL s232 (some s240) none))) (x_cat (Ee := pStr) (x_kd (E := fun (b_ : ((Unit × (Unit × Unit)) × (Unit × Unit))) => (pL pStr) ((cutL s232 none (some s240)) ++ ([x233]))) (x_frz (o_kd (E := fun (b_ : ((Unit × (Unit × Unit)) × (Unit × Unit))) => (oL pStr) ((cutL s232 none (some s240)) ++ ([x233]))) (x_cat (Ee := pStr) (x_kd (E := fun (b_ : (Unit × (Unit × Unit))) => (pL pStr) (cutL s232 none (some s240))) (x_frz (o_kd (E := fun (b_ : (Unit × (Unit × Unit))) => (oL pStr) (cutL s232 none (some s240))) (x_slL (Ee := pStr) (x_var (p := (pL pStr) s232) 1) (fun _ => p_none) (fun _ _ => p_some (i := fun (b_ : Unit) => s240) (x_var (p := pInt s240) 3)) (fun _ _ _ => rdF))))) (fun _ => x_kd (E := fun (b_ : (Unit × Unit)) => (pL pStr) ([x233])) (x_frz (o_kd (E := fun (b_ : (Unit × Unit)) => (oL pStr) ([x233])) (x_disp pStr (fun _ => [_]) (a_cons (x_var (p := pStr x233) 2) (fun _ => a_nil)) (fun _ => rfl) (fun _ => by simp))))) (fun _ _ => rdF) (fun _ _ => rdF))))) (fun _ => x_kd (E := fun (b_ : (Unit × (Unit × Unit))) => (pL pStr) (cutL s232 (some s240) none)) (x_frz (o_kd (E := fun (b_ : (Unit × (Unit × Unit))) => (oL pStr) (cutL s232 (some s240) none)) (x_slL (Ee := pStr) (x_var (p := (pL pStr) s232) 1) (fun _ => p_some (i := fun (b_ : Unit) => s240) (x_var (p := pInt s240) 3)) (fun _ _ => p_none) (fun _ _ _ => rdF))))) (fun _ _ => rdF) (fun _ _ => rdF))))) fun (b242 : (((Unit × (Unit × Unit)) × (Unit × Unit)) × (Unit × (Unit × Unit)))) x241 => s_end x241 rfl ⟨rfl, rfl, trivial⟩ (List.Sublist.refl _))))) fun b231 s234 => s_T (T := some s234) (s_ret (P := (fun _ => [])) (Rp := (pL pStr)) (ι := id) (rv := fun (b : Unit) => s234) (fun _ _ _ h => h) (x_var (p := (pL pStr) s234) 1) (fun _ => List.Sublist.refl _))))) (by unfold M_l_ascending; rfl)
end
end My
end
section
set_option maxHeartbeats 4000000
set_option synthInstance.maxSize 2000
namespace My
open PySem PySem.Spec PyProof.Rows L2 L3
section
variable {P : Program} {w : World} {K : PySem.W.Frag} {mg : Str → Option Value} {base : Heap}
theorem sc_l_same_words : FnScope ["_law_actual", "_law_expected", "_law_k"] ["_law_actual", "_law_expected"] (defScope (top 22)) := ⟨rfl, rfl, rfl, by decide +kernel, rfl, by decide +kernel, by decide +kernel⟩
theorem ok_l_same_words {f : Addr} {fd : FuncData} (C : Ev P K mg) (FD : FnP K "_law_same_words" (top 22) f fd)   : FnOk P w K mg base CX0 1 f fd ["_law_actual", "_law_expected"] (Sp_FF_f (pL pStr) (pL pStr) M_l_same_words pBl) := by
  have m_isinstance := C.m_isinstance
  have m_len := C.m_len
  have m_list := C.m_list
  have m_range := C.m_range
  have m_str := C.m_str
  refine fn_FF_f FD sc_l_same_words rfl fun cdv A outer s H E hr  a1 a2 => ?_
  exact s_is (s_T (T := if ((!true) || (!decide ((a1.length : Int) = (a2.length : Int)))) = true then some false else grd (rg (a2.length : Int) = true) ((forL (rngL 0 (a2.length : Int).toNat) (() : Unit) fun x250 s249 => (atI a1 x250).bind fun x253 => ((if (!true) = true then some (true, ()) else (atI a1 x250).bind fun x256 => (atI a2 x250).bind fun x257 => some ((!decide (x256 = x257)), ()))).bind fun c258 => if c258.1 = true then inB (some (Tm.rt false)) else some (Bo.nx ())).bind (boK (fun s251 => some true) id))) (s_ifT (ins_F _) (t_kd (c := fun (b_ : Unit) => ((!true) || (!decide ((a1.length : Int) = (a2.length : Int))))) (PW.pt (w_or (t_totV (!true) () (fun _ => rfl) (by exact (t_kd (c := fun (b_ : Unit) => (!true)) (t_not (t_kd (c := fun (b_ : Unit) => true) (t_val (x_kd (E := fun (b_ : Unit) => pBl true) (x_isi (cn := "list") (fun _ => "list") (fun _ => true) m_isinstance m_list (y_var (p := (pL pStr) a1) 0) (fun _ => tyL) (fun _ => by decide +kernel) (by decide +kernel))))))))) (w_or1 (t_totV (!decide ((a1.length : Int) = (a2.length : Int))) ((), ()) (fun _ => rfl) (by exact (t_kd (c := fun (b_ : (Unit × Unit)) => (!decide ((a1.length : Int) = (a2.length : Int)))) (t_neI (x_kd (E := fun (b_ : Unit) => pInt (a1.length : Int)) (x_lenL (Ee := pStr) m_len (y_var (p := (pL pStr) a1) 0) (fun _ => rdF))) (fun _ => x_kd (E := fun (b_ : Unit) => pInt (a2.length : Int)) (x_lenL (Ee := pStr) m_len (y_var (p := (pL pStr) a2) 1) (fun _ => rdF))))))))))) (fun (b247 : Unit) => s_T (T := some false) (s_ret (P := (fun _ => [])) (Rp := pBl) (ι := id) (rv := fun (b : Unit) => false) (fun _ _ _ h => h) x_bl (fun _ => List.Sublist.refl _))) fun (b247 : Unit) => s_T (T := grd (rg (a2.length : Int) = true) ((forL (rngL 0 (a2.length : Int).toNat) (() : Unit) fun x250 s249 => (atI a1 x250).bind fun x253 => ((if (!true) = true then some (true, ()) else (atI a1 x250).bind fun x256 => (atI a2 x250).bind fun x257 => some ((!decide (x256 = x257)), ()))).bind fun c258 => if c258.1 = true then inB (some (Tm.rt false)) else some (Bo.nx ())).bind (boK (fun s251 => some true) id))) (s_for PassesOwn.never (fun (b_ : Unit) (s_ : Unit) => ([some ((pL pStr) a1), some ((pL pStr) a2), none], [])) (fun (b_ : Unit) => ()) (ι := id) (R := (RF ⟨H, []⟩ (fun _ => []) pBl)) (i_rng1 m_range (x_kd (E := fun (b_ : Unit) => pInt (a2.length : Int)) (x_lenL (Ee := pStr) m_len (x_var (p := (pL pStr) a2) 1) (fun _ => rdF)))) (pg_name (i := 2) sc_l_same_words.nd rfl (by first | exact .inl rfl | exact .inr rfl)) (tg_name 2) (fun _ => ⟨rfl, rfl, trivial⟩) (fun _ => List.Sublist.refl _) (fun b248 x250 s249 => s_T (T := (atI a1 x250).bind fun x253 => ((if (!true) = true then some (true, ()) else (atI a1 x250).bind fun x256 => (atI a2 x250).bind fun x257 => some ((!decide (x256 = x257)), ()))).bind fun c258 => if c258.1 = true then inB (some (Tm.rt false)) else some (Bo.nx ())) (s_ifB ins_T (t_kd (c := fun (b_ : (((Unit × Unit) × Str) × (Bool × Unit))) => b_.2.1) (PW.pt (w_orM (ΔS := fun (b_ : ((Unit × Unit) × Str)) (s_ : Unit) => []) (s1 := fun (b_ : ((Unit × Unit) × Str)) => ()) (s2 := fun (b_ : ((Unit × Unit) × Str)) (c_ : (((Unit × Unit) × Str) × ((Unit × Unit) × Str))) => ()) (t_kd (c := fun (b_ : ((Unit × Unit) × Str)) => (!true)) (t_not (t_kd (c := fun (b_ : ((Unit × Unit) × Str)) => true) (t_val (x_kd (E := fun (b_ : ((Unit × Unit) × Str)) => pBl true) (x_isi (cn := "str") (fun _ => "str") (fun _ => true) m_isinstance m_str (x_kd (E := fun (b_ : ((Unit × Unit) × Str)) => pStr b_.2) (x_ixL (Ee := pStr) (x_var (p := (pL pStr) a1) 0) (fun _ => x_var (p := pInt x250) 2) (fun _ _ => rdF))) (fun _ => tyStr) (fun _ => by decide +kernel) (by decide +kernel))))))) (fun _ => w_or1 (t_kd (c := fun (b_ : (((Unit × Unit) × Str) × ((Unit × Unit) × Str))) => (!decide (b_.1.2 = b_.2.2))) (t_neS (x_kd (E := fun (b_ : ((Unit × Unit) × Str)) => pStr b_.2) (x_ixL (Ee := pStr) (x_var (p := (pL pStr) a1) 0) (fun _ => x_var (p := pInt x250) 2) (fun _ _ => rdF))) (fun _ => x_kd (E := fun (b_ : ((Unit × Unit) × Str)) => pStr b_.2) (x_ixL (Ee := pStr) (x_var (p := (pL pStr) a2) 1) (fun _ => x_var (p := pInt x250) 2) (fun _ _ => rdF)))))) (fun _ => rfl) (fun _ _ => rfl)))) (fun (b259 : (((Unit × Unit) × Str) × (Bool × Unit))) => s_T (T := some (Tm.rt false)) (s_ret (P := (fun _ => [])) (Rp := pBl) (ι := Tm.rt) (rv := fun (b : Unit) => false) (fun _ _ _ h => h) x_bl (fun _ => List.Sublist.refl _))) fun (b259 : (((Unit × Unit) × Str) × (Bool × Unit))) => s_endB () ⟨rfl, rfl, trivial⟩ (List.Sublist.refl _))) (fun b248 s251 => s_T (T := some true) (s_ret (P := (fun _ => [])) (Rp := pBl) (ι := id) (rv := fun (b : Unit) => true) (fun _ _ _ h => h) x_bl (fun _ => List.Sublist.refl _))) (fun _ _ _ h => h)))) (by unfold M_l_same_words; rfl)
end
end My
end
section
set_option maxHeartbeats 4000000
set_option synthInstance.maxSize 2000
namespace My
open PySem PySem.Spec PyProof.Rows L2 L3
section
variable {P : Program} {w : World} {K : PySem.W.Frag} {mg : Str → Option Value} {base : Heap}
theorem sc_l_rests : FnScope ["_law_line", "_law_rests_here", "_law_found", "_law_key"] ["_law_line", "_law_rests_here"] (defScope (top 23)) := ⟨rfl, rfl, rfl, by decide +kernel, rfl, by decide +kernel, by decide +kernel⟩
theorem ok_l_rests {f : Addr} {fd : FuncData} (C : Ev P K mg) (FD : FnP K "_law_rests" (top 23) f fd)   : FnOk P w K mg base CX0 2 f fd ["_law_line", "_law_rests_here"] (Sp_FO_f (pSm (pT3 pStr (pM (κ := Str) (pL pInt)) pStr) (pSm (pT4 pStr (pM (κ := Str) (pL pInt)) pStr (pT2 pStr (pSm pStr (pL (pSm pInt (pSm pStr (pL pInt))))))) (pT5 pStr (pM (κ := Str) (pL pInt)) pStr pInt pInt))) (oL (pL pStr)) M_l_rests (pL pStr)) := by
  obtain ⟨f_l_ascending, fd_l_ascending, F_l_ascending, g_l_ascending⟩ := C.f_l_ascending
  have k_l_ascending := ok_l_ascending (P := P) (w := w) (base := base) C F_l_ascending
  have b_l_ascending : Binds K fd_l_ascending ["_law_names"] [] := F_l_ascending.bindsN fun _ _ _ _ _ _ us hl => match us, hl with | [_], _ => rfl
  refine fn_FO_f FD sc_l_rests rfl fun cdv A outer s H E hr v2 G2 a1 a2 => ?_
  exact s_is (s_T (T := ((Sum.elim (fun (x_ : (Str × List (Str × List Int) × Str)) => some x_.1) (Sum.elim (fun (x_ : (Str × List (Str × List Int) × Str × (Str × (Str ⊕ (List (Int ⊕ (Str ⊕ (List Int)))))))) => some x_.1) (fun (x_ : (Str × List (Str × List Int) × Str × Int × Int)) => some x_.1))) a1).bind fun u260 => if (decide (u260 = ("rule" : Str))) = true then ((Sum.elim (fun (_ : (Str × List (Str × List Int) × Str)) => (none : Option Str)) (Sum.elim (fun (x_ : (Str × List (Str × List Int) × Str × (Str × (Str ⊕ (List (Int ⊕ (Str ⊕ (List Int)))))))) => some x_.2.2.1) (fun (_ : (Str × List (Str × List Int) × Str × Int × Int)) => (none : Option Str)))) a1).bind fun u262 => some ([u262], a2) else (some ([] : List Str)).bind fun x263 => ((Sum.elim (fun (x_ : (Str × List (Str × List Int) × Str)) => some x_.1) (Sum.elim (fun (x_ : (Str × List (Str × List Int) × Str × (Str × (Str ⊕ (List (Int ⊕ (Str ⊕ (List Int)))))))) => some x_.1) (fun (x_ : (Str × List (Str × List Int) × Str × Int × Int)) => some x_.1))) a1).bind fun u267 => (if (decide (u267 = ("join" : Str))) = true then ((Sum.elim (fun (_ : (Str × List (Str × List Int) × Str)) => (none : Option Int)) (Sum.elim (fun (_ : (Str × List (Str × List Int) × Str × (Str × (Str ⊕ (List (Int ⊕ (Str ⊕ (List Int)))))))) => (none : Option Int)) (fun (x_ : (Str × List (Str × List Int) × Str × Int × Int)) => some x_.2.2.2.1))) a1).bind fun u271 => (atI a2 (u271 - (1 : Int))).bind fun x272 => ((Sum.elim (fun (_ : (Str × List (Str × List Int) × Str)) => (none : Option Int)) (Sum.elim (fun (_ : (Str × List (Str × List Int) × Str × (Str × (Str ⊕ (List (Int ⊕ (Str ⊕ (List Int)))))))) => (none : Option Int)) (fun (x_ : (Str × List (Str × List Int) × Str × Int × Int)) => some x_.2.2.2.2))) a1).bind fun u273 => (atI a2 (u273 - (1 : Int))).bind fun x274 => grd (x272.length + x274.length ≤ sizeLine) ((forS (x272 ++ x274) (x263 : (List Str)) fun x277 s276 => (if (!decide (x277 ∈ s276)) = true then grd (s276.length < sizeLine) (some (s276 ++ [x277])) else some s276).bind fun s280 => some s280).bind fun s278 => some s278) else some x263).bind fun s269 => (M_l_ascending s269).bind fun r270 => some (r270, a2)) (s_ifT (ins_F _) (t_kd (c := fun (b_ : ((Unit × Str) × Unit)) => (decide (b_.1.2 = ("rule" : Str)))) (t_eqS (x_kd (E := fun (b_ : (Unit × Str)) => pStr b_.2) (x_ixP (P := (pSm (pT3 pStr (pM (κ := Str) (pL pInt)) pStr) (pSm (pT4 pStr (pM (κ := Str) (pL pInt)) pStr (pT2 pStr (pSm pStr (pL (pSm pInt (pSm pStr (pL pInt))))))) (pT5 pStr (pM (κ := Str) (pL pInt)) pStr pInt pInt)))) (E := pStr) 0 (g := (Sum.elim (fun (x_ : (Str × List (Str × List Int) × Str)) => some x_.1) (Sum.elim (fun (x_ : (Str × List (Str × List Int) × Str × (Str × (Str ⊕ (List (Int ⊕ (Str ⊕ (List Int)))))))) => some x_.1) (fun (x_ : (Str × List (Str × List Int) × Str × Int × Int)) => some x_.1)))) (ix_sm ix_t30 (ix_sm ix_t40 ix_t50)) (x_var (p := (pSm (pT3 pStr (pM (κ := Str) (pL pInt)) pStr) (pSm (pT4 pStr (pM (κ := Str) (pL pInt)) pStr (pT2 pStr (pSm pStr (pL (pSm pInt (pSm pStr (pL pInt))))))) (pT5 pStr (pM (κ := Str) (pL pInt)) pStr pInt pInt))) a1) 0))) (fun _ => x_str))) (fun (b261 : ((Unit × Str) × Unit)) => s_T (T := ((Sum.elim (fun (_ : (Str × List (Str × List Int) × Str)) => (none : Option Str)) (Sum.elim (fun (x_ : (Str × List (Str × List Int) × Str × (Str × (Str ⊕ (List (Int ⊕ (Str ⊕ (List Int)))))))) => some x_.2.2.1) (fun (_ : (Str × List (Str × List Int) × Str × Int × Int)) => (none : Option Str)))) a1).bind fun u262 => some ([u262], a2)) (s_ret (P := (fun (r : (List Str) × (List (List Str))) => [⟨v2, (oL (pL pStr)) r.2, some 0⟩])) (Rp := (fun (r : (List Str) × (List (List Str))) => (pL pStr) r.1)) (ι := id) (rv := fun (b : ((Unit × Str) × Unit)) => ([b.1.2], a2)) (fun _ _ _ h => h) (x_kd (x_kd (E := fun (b_ : ((Unit × Str) × Unit)) => (pL pStr) ([b_.1.2])) (x_frz (o_kd (E := fun (b_ : ((Unit × Str) × Unit)) => (oL pStr) ([b_.1.2])) (x_disp pStr (fun _ => [_]) (a_cons (x_kd (E := fun (b_ : (Unit × Str)) => pStr b_.2) (x_ixP (P := (pSm (pT3 pStr (pM (κ := Str) (pL pInt)) pStr) (pSm (pT4 pStr (pM (κ := Str) (pL pInt)) pStr (pT2 pStr (pSm pStr (pL (pSm pInt (pSm pStr (pL pInt))))))) (pT5 pStr (pM (κ := Str) (pL pInt)) pStr pInt pInt)))) (E := pStr) 2 (g := (Sum.elim (fun (_ : (Str × List (Str × List Int) × Str)) => (none : Option Str)) (Sum.elim (fun (x_ : (Str × List (Str × List Int) × Str × (Str × (Str ⊕ (List (Int ⊕ (Str ⊕ (List Int)))))))) => some x_.2.2.1) (fun (_ : (Str × List (Str × List Int) × Str × Int × Int)) => (none : Option Str))))) (ix_sm ix_no (ix_sm ix_t42 ix_no)) (x_var (p := (pSm (pT3 pStr (pM (κ := Str) (pL pInt)) pStr) (pSm (pT4 pStr (pM (κ := Str) (pL pInt)) pStr (pT2 pStr (pSm pStr (pL (pSm pInt (pSm pStr (pL pInt))))))) (pT5 pStr (pM (κ := Str) (pL pInt)) pStr pInt pInt))) a1) 0))) (fun _ => a_nil)) (fun _ => rfl) (fun _ => by simp)))))) (fun _ => List.Sublist.refl _))) fun (b261 : ((Unit × Str) × Unit)) => s_T (T := (some ([] : List Str)).bind fun x263 => ((Sum.elim (fun (x_ : (Str × List (Str × List Int) × Str)) => some x_.1) (Sum.elim (fun (x_ : (Str × List (Str × List Int) × Str × (Str × (Str ⊕ (List (Int ⊕ (Str ⊕ (List Int)))))))) => some x_.1) (fun (x_ : (Str × List (Str × List Int) × Str × Int × Int)) => some x_.1))) a1).bind fun u267 => (if (decide (u267 = ("join" : Str))) = true then ((Sum.elim (fun (_ : (Str × List (Str × List Int) × Str)) => (none : Option Int)) (Sum.elim (fun (_ : (Str × List (Str × List Int) × Str × (Str × (Str ⊕ (List (Int ⊕ (Str ⊕ (List Int)))))))) => (none : Option Int)) (fun (x_ : (Str × List (Str × List Int) × Str × Int × Int)) => some x_.2.2.2.1))) a1).bind fun u271 => (atI a2 (u271 - (1 : Int))).bind fun x272 => ((Sum.elim (fun (_ : (Str × List (Str × List Int) × Str)) => (none : Option Int)) (Sum.elim (fun (_ : (Str × List (Str × List Int) × Str × (Str × (Str ⊕ (List (Int ⊕ (Str ⊕ (List Int)))))))) => (none : Option Int)) (fun (x_ : (Str × List (Str × List Int) × Str × Int × Int)) => some x_.2.2.2.2))) a1).bind fun u273 => (atI a2 (u273 - (1 : Int))).bind fun x274 => grd (x272.length + x274.length ≤ sizeLine) ((forS (x272 ++ x274) (x263 : (List Str)) fun x277 s276 => (if (!decide (x277 ∈ s276)) = true then grd (s276.length < sizeLine) (some (s276 ++ [x277])) else some s276).bind fun s280 => some s280).bind fun s278 => some s278) else some x263).bind fun s269 => (M_l_ascending s269).bind fun r270 => some (r270, a2)) (s_letO (i := 2) (oL pStr) sc_l_rests.nd (o_kd (E := fun (b_ : Unit) => (oL pStr) ([])) (x_nil pStr)) fun (b264 : Unit) x263 v266 => s_T (T := ((Sum.elim (fun (x_ : (Str × List (Str × List Int) × Str)) => some x_.1) (Sum.elim (fun (x_ : (Str × List (Str × List Int) × Str × (Str × (Str ⊕ (List (Int ⊕ (Str ⊕ (List Int)))))))) => some x_.1) (fun (x_ : (Str × List (Str × List Int) × Str × Int × Int)) => some x_.1))) a1).bind fun u267 => (if (decide (u267 = ("join" : Str))) = true then ((Sum.elim (fun (_ : (Str × List (Str × List Int) × Str)) => (none : Option Int)) (Sum.elim (fun (_ : (Str × List (Str × List Int) × Str × (Str × (Str ⊕ (List (Int ⊕ (Str ⊕ (List Int)))))))) => (none : Option Int)) (fun (x_ : (Str × List (Str × List Int) × Str × Int × Int)) => some x_.2.2.2.1))) a1).bind fun u271 => (atI a2 (u271 - (1 : Int))).bind fun x272 => ((Sum.elim (fun (_ : (Str × List (Str × List Int) × Str)) => (none : Option Int)) (Sum.elim (fun (_ : (Str × List (Str × List Int) × Str × (Str × (Str ⊕ (List (Int ⊕ (Str ⊕ (List Int)))))))) => (none : Option Int)) (fun (x_ : (Str × List (Str × List Int) × Str × Int × Int)) => some x_.2.2.2.2))) a1).bind fun u273 => (atI a2 (u273 - (1 : Int))).bind fun x274 => grd (x272.length + x274.length ≤ sizeLine) ((forS (x272 ++ x274) (x263 : (List Str)) fun x277 s276 => (if (!decide (x277 ∈ s276)) = true then grd (s276.length < sizeLine) (some (s276 ++ [x277])) else some s276).bind fun s280 => some s280).bind fun s278 => some s278) else some x263).bind fun s269 => (M_l_ascending s269).bind fun r270 => some (r270, a2)) (s_ifN (C := fun s_ : (List Str) => ([some ((pSm (pT3 pStr (pM (κ := Str) (pL pInt)) pStr) (pSm (pT4 pStr (pM (κ := Str) (pL pInt)) pStr (pT2 pStr (pSm pStr (pL (pSm pInt (pSm pStr (pL pInt))))))) (pT5 pStr (pM (κ := Str) (pL pInt)) pStr pInt pInt))) a1), some (pV v2), some (pV v266), none], [⟨v266, (oL pStr) s_, none⟩, ⟨v2, (oL (pL pStr)) a2, some 0⟩])) (t_kd (c := fun (b_ : ((Unit × Str) × Unit)) => (decide (b_.1.2 = ("join" : Str)))) (t_eqS (x_kd (E := fun (b_ : (Unit × Str)) => pStr b_.2) (x_ixP (P := (pSm (pT3 pStr (pM (κ := Str) (pL pInt)) pStr) (pSm (pT4 pStr (pM (κ := Str) (pL pInt)) pStr (pT2 pStr (pSm pStr (pL (pSm pInt (pSm pStr (pL pInt))))))) (pT5 pStr (pM (κ := Str) (pL pInt)) pStr pInt pInt)))) (E := pStr) 0 (g := (Sum.elim (fun (x_ : (Str × List (Str × List Int) × Str)) => some x_.1) (Sum.elim (fun (x_ : (Str × List (Str × List Int) × Str × (Str × (Str ⊕ (List (Int ⊕ (Str ⊕ (List Int)))))))) => some x_.1) (fun (x_ : (Str × List (Str × List Int) × Str × Int × Int)) => some x_.1)))) (ix_sm ix_t30 (ix_sm ix_t40 ix_t50)) (x_var (p := (pSm (pT3 pStr (pM (κ := Str) (pL pInt)) pStr) (pSm (pT4 pStr (pM (κ := Str) (pL pInt)) pStr (pT2 pStr (pSm pStr (pL (pSm pInt (pSm pStr (pL pInt))))))) (pT5 pStr (pM (κ := Str) (pL pInt)) pStr pInt pInt))) a1) 0))) (fun _ => x_str))) (fun (b268 : ((Unit × Str) × Unit)) => s_T (T := ((Sum.elim (fun (_ : (Str × List (Str × List Int) × Str)) => (none : Option Int)) (Sum.elim (fun (_ : (Str × List (Str × List Int) × Str × (Str × (Str ⊕ (List (Int ⊕ (Str ⊕ (List Int)))))))) => (none : Option Int)) (fun (x_ : (Str × List (Str × List Int) × Str × Int × Int)) => some x_.2.2.2.1))) a1).bind fun u271 => (atI a2 (u271 - (1 : Int))).bind fun x272 => ((Sum.elim (fun (_ : (Str × List (Str × List Int) × Str)) => (none : Option Int)) (Sum.elim (fun (_ : (Str × List (Str × List Int) × Str × (Str × (Str ⊕ (List (Int ⊕ (Str ⊕ (List Int)))))))) => (none : Option Int)) (fun (x_ : (Str × List (Str × List Int) × Str × Int × Int)) => some x_.2.2.2.2))) a1).bind fun u273 => (atI a2 (u273 - (1 : Int))).bind fun x274 => grd (x272.length + x274.length ≤ sizeLine) ((forS (x272 ++ x274) (x263 : (List Str)) fun x277 s276 => (if (!decide (x277 ∈ s276)) = true then grd (s276.length < sizeLine) (some (s276 ++ [x277])) else some s276).bind fun s280 => some s280).bind fun s278 => some s278)) (s_forS PassesOwn.never (fun (b_ : (((Unit × ((Unit × Int) × Unit)) × (List Str)) × ((Unit × ((Unit × Int) × Unit)) × (List Str)))) (s_ : (List Str)) => ([some ((pSm (pT3 pStr (pM (κ := Str) (pL pInt)) pStr) (pSm (pT4 pStr (pM (κ := Str) (pL pInt)) pStr (pT2 pStr (pSm pStr (pL (pSm pInt (pSm pStr (pL pInt))))))) (pT5 pStr (pM (κ := Str) (pL pInt)) pStr pInt pInt))) a1), some (pV v2), some (pV v266), none], [⟨v266, (oL pStr) s_, none⟩, ⟨v2, (oL (pL pStr)) a2, some 0⟩])) (fun (b_ : (((Unit × ((Unit × Int) × Unit)) × (List Str)) × ((Unit × ((Unit × Int) × Unit)) × (List Str)))) => x263) (i_list (x_kd (E := fun (b_ : (((Unit × ((Unit × Int) × Unit)) × (List Str)) × ((Unit × ((Unit × Int) × Unit)) × (List Str)))) => (pL pStr) (b_.1.2 ++ b_.2.2)) (x_frz (o_kd (E := fun (b_ : (((Unit × ((Unit × Int) × Unit)) × (List Str)) × ((Unit × ((Unit × Int) × Unit)) × (List Str)))) => (oL pStr) (b_.1.2 ++ b_.2.2)) (x_cat (Ee := pStr) (x_kd (E := fun (b_ : ((Unit × ((Unit × Int) × Unit)) × (List Str))) => (pL pStr) b_.2) (x_ixL (Ee := (pL pStr)) (x_var (p := pV v2) 1) (fun _ => x_kd (E := fun (b_ : ((Unit × Int) × Unit)) => pInt (b_.1.2 - (1 : Int))) (x_sub (x_kd (E := fun (b_ : (Unit × Int)) => pInt b_.2) (x_ixP (P := (pSm (pT3 pStr (pM (κ := Str) (pL pInt)) pStr) (pSm (pT4 pStr (pM (κ := Str) (pL pInt)) pStr (pT2 pStr (pSm pStr (pL (pSm pInt (pSm pStr (pL pInt))))))) (pT5 pStr (pM (κ := Str) (pL pInt)) pStr pInt pInt)))) (E := pInt) 3 (g := (Sum.elim (fun (_ : (Str × List (Str × List Int) × Str)) => (none : Option Int)) (Sum.elim (fun (_ : (Str × List (Str × List Int) × Str × (Str × (Str ⊕ (List (Int ⊕ (Str ⊕ (List Int)))))))) => (none : Option Int)) (fun (x_ : (Str × List (Str × List Int) × Str × Int × Int)) => some x_.2.2.2.1)))) (ix_sm ix_no (ix_sm ix_no ix_t53)) (x_var (p := (pSm (pT3 pStr (pM (κ := Str) (pL pInt)) pStr) (pSm (pT4 pStr (pM (κ := Str) (pL pInt)) pStr (pT2 pStr (pSm pStr (pL (pSm pInt (pSm pStr (pL pInt))))))) (pT5 pStr (pM (κ := Str) (pL pInt)) pStr pInt pInt))) a1) 0))) (fun _ => x_int (i := 1)))) (fun _ _ => rdO 1))) (fun _ => x_kd (E := fun (b_ : ((Unit × ((Unit × Int) × Unit)) × (List Str))) => (pL pStr) b_.2) (x_ixL (Ee := (pL pStr)) (x_var (p := pV v2) 1) (fun _ => x_kd (E := fun (b_ : ((Unit × Int) × Unit)) => pInt (b_.1.2 - (1 : Int))) (x_sub (x_kd (E := fun (b_ : (Unit × Int)) => pInt b_.2) (x_ixP (P := (pSm (pT3 pStr (pM (κ := Str) (pL pInt)) pStr) (pSm (pT4 pStr (pM (κ := Str) (pL pInt)) pStr (pT2 pStr (pSm pStr (pL (pSm pInt (pSm pStr (pL pInt))))))) (pT5 pStr (pM (κ := Str) (pL pInt)) pStr pInt pInt)))) (E := pInt) 4 (g := (Sum.elim (fun (_ : (Str × List (Str × List Int) × Str)) => (none : Option Int)) (Sum.elim (fun (_ : (Str × List (Str × List Int) × Str × (Str × (Str ⊕ (List (Int ⊕ (Str ⊕ (List Int)))))))) => (none : Option Int)) (fun (x_ : (Str × List (Str × List Int) × Str × Int × Int)) => some x_.2.2.2.2)))) (ix_sm ix_no (ix_sm ix_no ix_t54)) (x_var (p := (pSm (pT3 pStr (pM (κ := Str) (pL pInt)) pStr) (pSm (pT4 pStr (pM (κ := Str) (pL pInt)) pStr (pT2 pStr (pSm pStr (pL (pSm pInt (pSm pStr (pL pInt))))))) (pT5 pStr (pM (κ := Str) (pL pInt)) pStr pInt pInt))) a1) 0))) (fun _ => x_int (i := 1)))) (fun _ _ => rdO 1))) (fun _ _ => rdF) (fun _ _ => rdF)))))) (pg_name (i := 3) sc_l_rests.nd rfl (by first | exact .inl rfl | exact .inr rfl)) (tg_name 3) (fun _ => ⟨rfl, rfl, rfl, trivial⟩) (fun _ => List.Sublist.refl _) (fun b275 x277 s276 => s_T (T := (if (!decide (x277 ∈ s276)) = true then grd (s276.length < sizeLine) (some (s276 ++ [x277])) else some s276).bind fun s280 => some s280) (s_ifN (C := fun s_ : (List Str) => ([some ((pSm (pT3 pStr (pM (κ := Str) (pL pInt)) pStr) (pSm (pT4 pStr (pM (κ := Str) (pL pInt)) pStr (pT2 pStr (pSm pStr (pL (pSm pInt (pSm pStr (pL pInt))))))) (pT5 pStr (pM (κ := Str) (pL pInt)) pStr pInt pInt))) a1), some (pV v2), some (pV v266), some (pStr x277)], [⟨v266, (oL pStr) s_, none⟩, ⟨v2, (oL (pL pStr)) a2, some 0⟩])) (t_kd (c := fun (b_ : (Unit × Unit)) => (!decide (x277 ∈ s276))) (t_ninL flStr (x_var (p := pStr x277) 3) (fun _ => x_var (p := pV v266) 2) (fun _ _ => rdO 0))) (fun (b279 : (Unit × Unit)) => s_T (T := grd (s276.length < sizeLine) (some (s276 ++ [x277]))) (s_expr (x_app 0 (x_var (p := pV v266) 2) (fun _ => x_var (p := pStr x277) 3) (fun _ => rfl) (fun _ _ => rfl)) fun (b281 : (Unit × Unit)) => s_end (s276 ++ [x277]) rfl ⟨rfl, rfl, rfl, rfl, trivial⟩ (List.Sublist.refl _))) (fun (b279 : (Unit × Unit)) => s_end s276 rfl ⟨rfl, rfl, rfl, rfl, trivial⟩ (List.Sublist.refl _)) fun (b279 : (Unit × Unit)) s280 => s_end s280 rfl ⟨rfl, rfl, rfl, trivial⟩ (List.Sublist.refl _))) fun b275 s278 => s_end s278 rfl ⟨rfl, rfl, rfl, trivial⟩ (List.Sublist.refl _))) (fun (b268 : ((Unit × Str) × Unit)) => s_end x263 rfl ⟨rfl, rfl, rfl, trivial⟩ (List.Sublist.refl _)) fun (b268 : ((Unit × Str) × Unit)) s269 => s_frz (i := 2) (c := ⟨v266, (oL pStr) s269, none⟩) 0 (s_T (T := (M_l_ascending s269).bind fun r270 => some (r270, a2)) (s_ret (P := (fun (r : (List Str) × (List (List Str))) => [⟨v2, (oL (pL pStr)) r.2, some 0⟩])) (Rp := (fun (r : (List Str) × (List (List Str))) => (pL pStr) r.1)) (ι := id) (rv := fun (b : (Unit × (List Str))) => (b.2, a2)) (fun _ _ _ h => h) (x_kd (x_kd (E := fun (b_ : (Unit × (List Str))) => (pL pStr) b_.2) (x_F_f (kk := 1) (E1 := (pL pStr)) k_l_ascending (hr.mono (by decide)) g_l_ascending F_l_ascending.kp b_l_ascending (x_var (p := (pL pStr) s269) 2)))) (fun _ => List.Sublist.refl _))))))) (by unfold M_l_rests; rfl)
end
end My
end
section
set_option maxHeartbeats 4000000
set_option synthInstance.maxSize 2000
namespace My
open PySem PySem.Spec PyProof.Rows L2 L3
section
variable {P : Program} {w : World} {K : PySem.W.Frag} {mg : Str → Option Value} {base : Heap}
theorem sc_l_unknown : FnScope ["_law_lines", "_law_number_here", "e"] ["_law_lines", "_law_number_here"] (defScope (top 24)) := ⟨rfl, rfl, rfl, by decide +kernel, rfl, by decide +kernel, by decide +kernel⟩
theorem ok_l_unknown {f : Addr} {fd : FuncData} (C : Ev P K mg) (FD : FnP K "_law_unknown" (top 24) f fd)   : FnOk P w K mg base CX0 3 f fd ["_law_lines", "_law_number_here"] (Sp_FF_f (pL (pSm (pT3 pStr (pM (κ := Str) (pL pInt)) pStr) (pSm (pT4 pStr (pM (κ := Str) (pL pInt)) pStr (pT2 pStr (pSm pStr (pL (pSm pInt (pSm pStr (pL pInt))))))) (pT5 pStr (pM (κ := Str) (pL pInt)) pStr pInt pInt)))) pInt M_l_unknown pBl) := by
  have m_isinstance := C.m_isinstance
  obtain ⟨f_rests_on, fd_rests_on, F_rests_on, g_rests_on⟩ := C.f_rests_on
  have k_rests_on := ok_rests_on (P := P) (w := w) (base := base) C F_rests_on
  have b_rests_on : Binds K fd_rests_on ["lines", "number"] [] := F_rests_on.bindsN fun _ _ _ _ _ _ us hl => match us, hl with | [_, _], _ => rfl
  obtain ⟨f_l_is_integer, fd_l_is_integer, F_l_is_integer, g_l_is_integer⟩ := C.f_l_is_integer
  have k_l_is_integer := ok_l_is_integer (P := P) (w := w) (base := base) C F_l_is_integer
  have kq_l_is_integer := okq_l_is_integer (P := P) (w := w) (base := base) C F_l_is_integer
  have b_l_is_integer : Binds K fd_l_is_integer ["_law_actual"] [] := F_l_is_integer.bindsN fun _ _ _ _ _ _ us hl => match us, hl with | [_], _ => rfl
  refine fn_FF_f FD sc_l_unknown rfl fun cdv A outer s H E hr  a1 a2 => ?_
  exact s_is (s_T (T := ((M_rests_on a1 a2).bind (xK (fun e => Bo.tm ((Except.error) e)) fun r283 => some (Bo.nx ()))).bind (tryK (fun s282 => some false) id (fun e => subC e.cn "UnknownLine") (fun e285 => if ((subC e285.cn "UnknownKey") || ((subC e285.cn "BadLine") || (!(subC e285.cn "DeskError")))) = true then inB (some false) else inB (((if (subC e285.cn "ValueError") = true then (erF e285 "number").bind fun y292 => (FV.int? y292).bind fun z293 => (M_l_is_integer z293).bind fun r294 => ((if r294 = true then (erF e285 "number").bind fun y297 => (FV.int? y297).bind fun z298 => some ((decide (z298 = a2)), ()) else some (false, ()))).bind fun c299 => some (c299.1, ()) else some (false, ()))).bind fun c300 => some (c300.1))) (fun _ => none))) (s_try_as (Tf := (fF (RF ⟨H, []⟩ (fun _ => []) pBl))) (Ke := fun _ => none) (ι := id) (i := 2) (m := fun e => subC e.cn "UnknownLine") (Kx := erX mg rsL) (fun s_ : Unit => ([some ((pL (pSm (pT3 pStr (pM (κ := Str) (pL pInt)) pStr) (pSm (pT4 pStr (pM (κ := Str) (pL pInt)) pStr (pT2 pStr (pSm pStr (pL (pSm pInt (pSm pStr (pL pInt))))))) (pT5 pStr (pM (κ := Str) (pL pInt)) pStr pInt pInt)))) a1), some (pInt a2), none], [])) ([some ((pL (pSm (pT3 pStr (pM (κ := Str) (pL pInt)) pStr) (pSm (pT4 pStr (pM (κ := Str) (pL pInt)) pStr (pT2 pStr (pSm pStr (pL (pSm pInt (pSm pStr (pL pInt))))))) (pT5 pStr (pM (κ := Str) (pL pInt)) pStr pInt pInt)))) a1), some (pInt a2), none]) ([]) sc_l_unknown.nd (C.xs.names (by decide +kernel)) takes_no (C.xs.exms (by decide +kernel)) (by rfl) (fun W pn xe tkW po => s_T (T := (M_rests_on a1 a2).bind (xK (fun e => Bo.tm ((Except.error) e)) fun r283 => some (Bo.nx ()))) (s_exprOX (x_Xo (kk := 2) (xs := fun (b : (Unit × (Unit × Unit))) => (a1, a2)) k_rests_on tkW (hr.mono (by decide)) g_rests_on F_rests_on.kp b_rests_on (a_cons (x_var (p := (pL (pSm (pT3 pStr (pM (κ := Str) (pL pInt)) pStr) (pSm (pT4 pStr (pM (κ := Str) (pL pInt)) pStr (pT2 pStr (pSm pStr (pL (pSm pInt (pSm pStr (pL pInt))))))) (pT5 pStr (pM (κ := Str) (pL pInt)) pStr pInt pInt)))) a1) 0) (fun _ => a_cons (x_var (p := pInt a2) 1) (fun _ => a_nil)))) (ex_B ex_X) (List.Sublist.refl _) (fun _ _ h => nm_wk h ⟨rfl, rfl, trivial⟩) fun (b284 : ((Unit × (Unit × Unit)) × (List Str))) => s_endB () ⟨rfl, rfl, trivial⟩ (List.Sublist.refl _))) (fun a oe cls d pn hz hf e285 => s_T (T := if ((subC e285.cn "UnknownKey") || ((subC e285.cn "BadLine") || (!(subC e285.cn "DeskError")))) = true then inB (some false) else inB (((if (subC e285.cn "ValueError") = true then (erF e285 "number").bind fun y292 => (FV.int? y292).bind fun z293 => (M_l_is_integer z293).bind fun r294 => ((if r294 = true then (erF e285 "number").bind fun y297 => (FV.int? y297).bind fun z298 => some ((decide (z298 = a2)), ()) else some (false, ()))).bind fun c299 => some (c299.1, ()) else some (false, ()))).bind fun c300 => some (c300.1))) (s_ifB (ins_F _) (t_kd (c := fun (b_ : Unit) => ((subC e285.cn "UnknownKey") || ((subC e285.cn "BadLine") || (!(subC e285.cn "DeskError"))))) (PW.pt (w_or (t_totV (subC e285.cn "UnknownKey") () (fun _ => rfl) (by exact (t_kd (c := fun (b_ : Unit) => (subC e285.cn "UnknownKey")) (t_val (x_kd (E := fun (b_ : Unit) => pBl (subC e285.cn "UnknownKey")) (x_isE1 (y := "UnknownKey") hz hf C.xs (by decide +kernel) m_isinstance (y_var (p := pExc (erX mg rsL) a cls d e285) 2))))))) (w_or (t_totV (subC e285.cn "BadLine") () (fun _ => rfl) (by exact (t_kd (c := fun (b_ : Unit) => (subC e285.cn "BadLine")) (t_val (x_kd (E := fun (b_ : Unit) => pBl (subC e285.cn "BadLine")) (x_isE1 (y := "BadLine") hz hf C.xs (by decide +kernel) m_isinstance (y_var (p := pExc (erX mg rsL) a cls d e285) 2))))))) (w_or1 (t_totV (!(subC e285.cn "DeskError")) () (fun _ => rfl) (by exact (t_kd (c := fun (b_ : Unit) => (!(subC e285.cn "DeskError"))) (t_not (t_kd (c := fun (b_ : Unit) => (subC e285.cn "DeskError")) (t_val (x_kd (E := fun (b_ : Unit) => pBl (subC e285.cn "DeskError")) (x_isE1 (y := "DeskError") hz hf C.xs (by decide +kernel) m_isinstance (y_var (p := pExc (erX mg rsL) a cls d e285) 2)))))))))))))) (fun (b286 : Unit) => s_T (T := some false) (s_ret (P := (fun _ => [])) (Rp := pBl) (ι := id) (rv := fun (b : Unit) => false) (fun _ _ _ h => h) x_bl (fun _ => List.Sublist.refl _))) fun (b286 : Unit) => s_T (T := inB (((if (subC e285.cn "ValueError") = true then (erF e285 "number").bind fun y292 => (FV.int? y292).bind fun z293 => (M_l_is_integer z293).bind fun r294 => ((if r294 = true then (erF e285 "number").bind fun y297 => (FV.int? y297).bind fun z298 => some ((decide (z298 = a2)), ()) else some (false, ()))).bind fun c299 => some (c299.1, ()) else some (false, ()))).bind fun c300 => some (c300.1))) (s_tm (s_ret (P := (fun _ => [])) (Rp := pBl) (ι := id) (rv := fun (b : (Unit × (Bool × Unit))) => b.2.1) (fun _ _ _ h => h) (x_kd (x_kd (E := fun (b_ : (Unit × (Bool × Unit))) => pBl b_.2.1) (v_andM (ΔS := fun (b_ : Unit) (s_ : Unit) => []) (s1 := fun (b_ : Unit) => ()) (s2 := fun (b_ : Unit) (c_ : ((((Unit × FV) × Int) × Bool) × (Bool × Unit))) => ()) (x_kd (E := fun (b_ : Unit) => pBl (subC e285.cn "ValueError")) (x_isE1 (y := "ValueError") hz hf C.xs (by decide +kernel) m_isinstance (x_var (p := pExc (erX mg rsL) a cls d e285) 2))) (fun _ => v_andM (ΔS := fun (b_ : (((Unit × FV) × Int) × Bool)) (s_ : Unit) => []) (s1 := fun (b_ : (((Unit × FV) × Int) × Bool)) => ()) (s2 := fun (b_ : (((Unit × FV) × Int) × Bool)) (c_ : (((Unit × FV) × Int) × Unit)) => ()) (x_kd (E := fun (b_ : (((Unit × FV) × Int) × Bool)) => pBl b_.2) (x_Q1 (kk := 1) (E1 := pInt) (show (a, oe) ∈ (a, oe) :: pn from List.mem_cons_self) kq_l_is_integer (roomS hr (by decide : 1 ≤ _)) g_l_is_integer F_l_is_integer.kp b_l_is_integer (x_kd (E := fun (b_ : ((Unit × FV) × Int)) => pInt b_.2) (x_fv (Ee := pInt) FV.int? fv_int (x_erF (f := "number") hz hf C.xs (x_var (p := pExc (erX mg rsL) a cls d e285) 2)))))) (fun _ => v_one (x_kd (E := fun (b_ : (((Unit × FV) × Int) × Unit)) => pBl (decide (b_.1.2 = a2))) (x_eqI (x_kd (E := fun (b_ : ((Unit × FV) × Int)) => pInt b_.2) (x_fv (Ee := pInt) FV.int? fv_int (x_erF (f := "number") hz hf C.xs (x_var (p := pExc (erX mg rsL) a cls d e285) 2)))) (fun _ => x_var (p := pInt a2) 1)))) (fun _ => rfl) (fun _ _ => rfl)) (fun _ => rfl) (fun _ _ => rfl)))) (fun _ => List.Sublist.refl _))))) (fun s282 => s_T (T := some false) (s_ret (P := (fun _ => [])) (Rp := pBl) (ι := id) (rv := fun (b : Unit) => false) (fun _ _ _ h => h) x_bl (fun _ => List.Sublist.refl _))) (fun _ _ _ h => h) (ins_F _) (uns_F _) (fun _ => rfl) (fun _ _ _ _ _ h => nomatch h))) (by unfold M_l_unknown; rfl)
end
end My
end
section
set_option maxHeartbeats 4000000
set_option synthInstance.maxSize 2000
namespace My
open PySem PySem.Spec PyProof.Rows L2 L3
section
variable {P : Program} {w : World} {K : PySem.W.Frag} {mg : Str → Option Value} {base : Heap}
theorem sc_l_keys_hold : FnScope ["_law_lines", "_law_number_here", "_law_expected", "_law_told"] ["_law_lines", "_law_number_here", "_law_expected"] (defScope (top 25)) := ⟨rfl, rfl, rfl, by decide +kernel, rfl, by decide +kernel, by decide +kernel⟩
theorem ok_l_keys_hold {f : Addr} {fd : FuncData} (C : Ev P K mg) (FD : FnP K "_law_keys_hold" (top 25) f fd)   : FnOk P w K mg base CX0 3 f fd ["_law_lines", "_law_number_here", "_law_expected"] (Sp_FFF_f (pL (pSm (pT3 pStr (pM (κ := Str) (pL pInt)) pStr) (pSm (pT4 pStr (pM (κ := Str) (pL pInt)) pStr (pT2 pStr (pSm pStr (pL (pSm pInt (pSm pStr (pL pInt))))))) (pT5 pStr (pM (κ := Str) (pL pInt)) pStr pInt pInt)))) pInt (pL pStr) M_l_keys_hold pBl) := by
  obtain ⟨f_rests_on, fd_rests_on, F_rests_on, g_rests_on⟩ := C.f_rests_on
  have k_rests_on := ok_rests_on (P := P) (w := w) (base := base) C F_rests_on
  have b_rests_on : Binds K fd_rests_on ["lines", "number"] [] := F_rests_on.bindsN fun _ _ _ _ _ _ us hl => match us, hl with | [_, _], _ => rfl
  obtain ⟨f_l_same_words, fd_l_same_words, F_l_same_words, g_l_same_words⟩ := C.f_l_same_words
  have k_l_same_words := ok_l_same_words (P := P) (w := w) (base := base) C F_l_same_words
  have b_l_same_words : Binds K fd_l_same_words ["_law_actual", "_law_expected"] [] := F_l_same_words.bindsN fun _ _ _ _ _ _ us hl => match us, hl with | [_, _], _ => rfl
  refine fn_FFF_f FD sc_l_keys_hold rfl fun cdv A outer s H E hr  a1 a2 a3 => ?_
  exact s_is (s_T (T := ((M_rests_on a1 a2).bind okx).bind fun r301 => (some (r301 : List Str)).bind fun x302 => (M_l_same_words x302 a3).bind fun r306 => if (!r306) = true then some false else grd (x302.length < sizeLine) (((M_rests_on a1 a2).bind okx).bind fun r309 => (M_l_same_words r309 a3).bind fun r310 => some r310)) (s_letO (i := 3) (oL pStr) sc_l_keys_hold.nd (o_kd (E := fun (b_ : ((Unit × (Unit × Unit)) × (List Str))) => (oL pStr) b_.2) (x_Zo (kk := 2) (xs := fun (b : (Unit × (Unit × Unit))) => (a1, a2)) k_rests_on (hr.mono (by decide)) g_rests_on F_rests_on.kp b_rests_on (a_cons (x_var (p := (pL (pSm (pT3 pStr (pM (κ := Str) (pL pInt)) pStr) (pSm (pT4 pStr (pM (κ := Str) (pL pInt)) pStr (pT2 pStr (pSm pStr (pL (pSm pInt (pSm pStr (pL pInt))))))) (pT5 pStr (pM (κ := Str) (pL pInt)) pStr pInt pInt)))) a1) 0) (fun _ => a_cons (x_var (p := pInt a2) 1) (fun _ => a_nil))))) fun (b303 : ((Unit × (Unit × Unit)) × (List Str))) x302 v305 => s_T (T := (M_l_same_words x302 a3).bind fun r306 => if (!r306) = true then some false else grd (x302.length < sizeLine) (((M_rests_on a1 a2).bind okx).bind fun r309 => (M_l_same_words r309 a3).bind fun r310 => some r310)) (s_ifT (ins_F _) (t_kd (c := fun (b_ : ((Unit × Unit) × Bool)) => (!b_.2)) (t_not (t_kd (c := fun (b_ : ((Unit × Unit) × Bool)) => b_.2) (t_val (x_kd (E := fun (b_ : ((Unit × Unit) × Bool)) => pBl b_.2) (x_lockG (d := (oL pStr) x302) 0 3 feBl (x_FF_f (kk := 1) (E1 := (pL pStr)) (E2 := (pL pStr)) k_l_same_words (hr.mono (by decide)) g_l_same_words F_l_same_words.kp b_l_same_words (x_var (p := (pL pStr) x302) 3) (fun _ => x_var (p := (pL pStr) a3) 2)))))))) (fun (b307 : ((Unit × Unit) × Bool)) => s_T (T := some false) (s_ret (P := (fun _ => [])) (Rp := pBl) (ι := id) (rv := fun (b : Unit) => false) (fun _ _ _ h => h) x_bl (fun _ => .cons _ (.slnil)))) fun (b307 : ((Unit × Unit) × Bool)) => s_T (T := grd (x302.length < sizeLine) (((M_rests_on a1 a2).bind okx).bind fun r309 => (M_l_same_words r309 a3).bind fun r310 => some r310)) (s_expr (x_app 0 (x_var (p := pV v305) 3) (fun _ => x_str) (fun _ => rfl) (fun _ _ => rfl)) fun (b308 : (Unit × Unit)) => s_T (T := ((M_rests_on a1 a2).bind okx).bind fun r309 => (M_l_same_words r309 a3).bind fun r310 => some r310) (s_ret (P := (fun _ => [])) (Rp := pBl) (ι := id) (rv := fun (b : ((((Unit × (Unit × Unit)) × (List Str)) × Unit) × Bool)) => b.2) (fun _ _ _ h => h) (x_kd (x_kd (E := fun (b_ : ((((Unit × (Unit × Unit)) × (List Str)) × Unit) × Bool)) => pBl b_.2) (x_FF_f (kk := 1) (E1 := (pL pStr)) (E2 := (pL pStr)) k_l_same_words (hr.mono (by decide)) g_l_same_words F_l_same_words.kp b_l_same_words (x_kd (E := fun (b_ : ((Unit × (Unit × Unit)) × (List Str))) => (pL pStr) b_.2) (x_frz (o_kd (E := fun (b_ : ((Unit × (Unit × Unit)) × (List Str))) => (oL pStr) b_.2) (x_Zo (kk := 2) (xs := fun (b : (Unit × (Unit × Unit))) => (a1, a2)) k_rests_on (hr.mono (by decide)) g_rests_on F_rests_on.kp b_rests_on (a_cons (x_var (p := (pL (pSm (pT3 pStr (pM (κ := Str) (pL pInt)) pStr) (pSm (pT4 pStr (pM (κ := Str) (pL pInt)) pStr (pT2 pStr (pSm pStr (pL (pSm pInt (pSm pStr (pL pInt))))))) (pT5 pStr (pM (κ := Str) (pL pInt)) pStr pInt pInt)))) a1) 0) (fun _ => a_cons (x_var (p := pInt a2) 1) (fun _ => a_nil))))))) (fun _ => x_var (p := (pL pStr) a3) 2)))) (fun _ => .cons _ (.slnil))))))) (by unfold M_l_keys_hold; rfl)
end
end My
end
section
set_option maxHeartbeats 4000000
set_option synthInstance.maxSize 2000
namespace My
open PySem PySem.Spec PyProof.Rows L2 L3
section
variable {P : Program} {w : World} {K : PySem.W.Frag} {mg : Str → Option Value} {base : Heap}
theorem sc_l_long_holds : FnScope ["_law_size", "_law_lines", "_law_k"] ["_law_size"] (defScope (top 26)) := ⟨rfl, rfl, rfl, by decide +kernel, rfl, by decide +kernel, by decide +kernel⟩
theorem ok_l_long_holds {f : Addr} {fd : FuncData} (C : Ev P K mg) (FD : FnP K "_law_long_holds" (top 26) f fd)   : FnOk P w K mg base CX0 3 f fd ["_law_size"] (Sp_F_f pInt M_l_long_holds pBl) := by
  have m_range := C.m_range
  obtain ⟨f_rests_on, fd_rests_on, F_rests_on, g_rests_on⟩ := C.f_rests_on
  have k_rests_on := ok_rests_on (P := P) (w := w) (base := base) C F_rests_on
  have b_rests_on : Binds K fd_rests_on ["lines", "number"] [] := F_rests_on.bindsN fun _ _ _ _ _ _ us hl => match us, hl with | [_, _], _ => rfl
  refine fn_F_f FD sc_l_long_holds rfl fun cdv A outer s H E hr  a1 => ?_
  exact s_is (s_T (T := (some ([(.inl (("void" : Str), ([] : List (Str × List Int)), ("x" : Str)) : ((Str × List (Str × List Int) × Str) ⊕ ((Str × List (Str × List Int) × Str × (Str × (Str ⊕ (List (Int ⊕ (Str ⊕ (List Int))))))) ⊕ (Str × List (Str × List Int) × Str × Int × Int)))), (.inr (.inl (("rule" : Str), ([] : List (Str × List Int)), ("key_1" : Str), (("blame" : Str), (.inr ([]) : (Str ⊕ (List (Int ⊕ (Str ⊕ (List Int)))))))) : ((Str × List (Str × List Int) × Str × (Str × (Str ⊕ (List (Int ⊕ (Str ⊕ (List Int))))))) ⊕ (Str × List (Str × List Int) × Str × Int × Int))) : ((Str × List (Str × List Int) × Str) ⊕ ((Str × List (Str × List Int) × Str × (Str × (Str ⊕ (List (Int ⊕ (Str ⊕ (List Int))))))) ⊕ (Str × List (Str × List Int) × Str × Int × Int))))] : List ((Str × List (Str × List Int) × Str) ⊕ ((Str × List (Str × List Int) × Str × (Str × (Str ⊕ (List (Int ⊕ (Str ⊕ (List Int))))))) ⊕ (Str × List (Str × List Int) × Str × Int × Int))))).bind fun x311 => grd (rg a1 = true) ((forS (rngL 0 a1.toNat) (x311 : (List ((Str × List (Str × List Int) × Str) ⊕ ((Str × List (Str × List Int) × Str × (Str × (Str ⊕ (List (Int ⊕ (Str ⊕ (List Int))))))) ⊕ (Str × List (Str × List Int) × Str × Int × Int))))) fun x317 s316 => grd (s316.length < sizeLine) (some (s316 ++ [(.inr (.inr (("join" : Str), ([] : List (Str × List Int)), ("x" : Str), (x317 + (2 : Int)), (x317 + (2 : Int))) : ((Str × List (Str × List Int) × Str × (Str × (Str ⊕ (List (Int ⊕ (Str ⊕ (List Int))))))) ⊕ (Str × List (Str × List Int) × Str × Int × Int))) : ((Str × List (Str × List Int) × Str) ⊕ ((Str × List (Str × List Int) × Str × (Str × (Str ⊕ (List (Int ⊕ (Str ⊕ (List Int))))))) ⊕ (Str × List (Str × List Int) × Str × Int × Int))))]))).bind fun s318 => ((M_rests_on s318 (a1 + (2 : Int))).bind okx).bind fun r319 => grd (okG (dgL dgStr) r319 ([("key_1" : Str)]) = true) (((if (decide (r319 = ([("key_1" : Str)]))) = true then ((M_rests_on s318 (1 : Int)).bind okx).bind fun r321 => grd (okG (dgL dgStr) r321 ([]) = true) (some ((decide (r321 = ([]))), ())) else some (false, ()))).bind fun c322 => some (c322.1)))) (s_letO (i := 1) (oL (pSm (pT3 pStr (pM (κ := Str) (pL pInt)) pStr) (pSm (pT4 pStr (pM (κ := Str) (pL pInt)) pStr (pT2 pStr (pSm pStr (pL (pSm pInt (pSm pStr (pL pInt))))))) (pT5 pStr (pM (κ := Str) (pL pInt)) pStr pInt pInt)))) sc_l_long_holds.nd (o_kd (E := fun (b_ : ((Unit × (Unit × (Unit × Unit))) × ((Unit × (Unit × (Unit × ((Unit × (Unit × Unit)) × Unit)))) × Unit))) => (oL (pSm (pT3 pStr (pM (κ := Str) (pL pInt)) pStr) (pSm (pT4 pStr (pM (κ := Str) (pL pInt)) pStr (pT2 pStr (pSm pStr (pL (pSm pInt (pSm pStr (pL pInt))))))) (pT5 pStr (pM (κ := Str) (pL pInt)) pStr pInt pInt)))) ([(.inl (("void" : Str), ([] : List (Str × List Int)), ("x" : Str)) : ((Str × List (Str × List Int) × Str) ⊕ ((Str × List (Str × List Int) × Str × (Str × (Str ⊕ (List (Int ⊕ (Str ⊕ (List Int))))))) ⊕ (Str × List (Str × List Int) × Str × Int × Int)))), (.inr (.inl (("rule" : Str), ([] : List (Str × List Int)), ("key_1" : Str), (("blame" : Str), (.inr ([]) : (Str ⊕ (List (Int ⊕ (Str ⊕ (List Int)))))))) : ((Str × List (Str × List Int) × Str × (Str × (Str ⊕ (List (Int ⊕ (Str ⊕ (List Int))))))) ⊕ (Str × List (Str × List Int) × Str × Int × Int))) : ((Str × List (Str × List Int) × Str) ⊕ ((Str × List (Str × List Int) × Str × (Str × (Str ⊕ (List (Int ⊕ (Str ⊕ (List Int))))))) ⊕ (Str × List (Str × List Int) × Str × Int × Int))))])) (x_disp (pSm (pT3 pStr (pM (κ := Str) (pL pInt)) pStr) (pSm (pT4 pStr (pM (κ := Str) (pL pInt)) pStr (pT2 pStr (pSm pStr (pL (pSm pInt (pSm pStr (pL pInt))))))) (pT5 pStr (pM (κ := Str) (pL pInt)) pStr pInt pInt))) (fun _ => [_, _]) (a_cons (co_inl (E := (pT3 pStr (pM (κ := Str) (pL pInt)) pStr)) (G := (pSm (pT4 pStr (pM (κ := Str) (pL pInt)) pStr (pT2 pStr (pSm pStr (pL (pSm pInt (pSm pStr (pL pInt))))))) (pT5 pStr (pM (κ := Str) (pL pInt)) pStr pInt pInt))) (x_kd (E := fun (b_ : (Unit × (Unit × (Unit × Unit)))) => (pT3 pStr (pM (κ := Str) (pL pInt)) pStr) (("void" : Str), ([] : List (Str × List Int)), ("x" : Str))) (x_tp3 pStr (pM (κ := Str) (pL pInt)) pStr (fun (b : (Unit × (Unit × (Unit × Unit)))) => ("void" : Str)) (fun (b : (Unit × (Unit × (Unit × Unit)))) => ([] : List (Str × List Int))) (fun (b : (Unit × (Unit × (Unit × Unit)))) => ("x" : Str)) (pa_kd (a_cons x_str (fun _ => a_cons (x_kd (E := fun (b_ : Unit) => (pM (κ := Str) (pL pInt)) ([] : List (Str × List Int))) (x_frz (o_kd (E := fun (b_ : Unit) => (oM (κ := Str) (pL pInt)) ([] : List (Str × List Int))) (x_dict0 (κ := Str) (pL pInt))))) (fun _ => a_cons x_str (fun _ => a_nil)))))))) (fun _ => a_cons (co_inr (E := (pT3 pStr (pM (κ := Str) (pL pInt)) pStr)) (G := (pSm (pT4 pStr (pM (κ := Str) (pL pInt)) pStr (pT2 pStr (pSm pStr (pL (pSm pInt (pSm pStr (pL pInt))))))) (pT5 pStr (pM (κ := Str) (pL pInt)) pStr pInt pInt))) (co_inl (E := (pT4 pStr (pM (κ := Str) (pL pInt)) pStr (pT2 pStr (pSm pStr (pL (pSm pInt (pSm pStr (pL pInt)))))))) (G := (pT5 pStr (pM (κ := Str) (pL pInt)) pStr pInt pInt)) (x_kd (E := fun (b_ : (Unit × (Unit × (Unit × ((Unit × (Unit × Unit)) × Unit))))) => (pT4 pStr (pM (κ := Str) (pL pInt)) pStr (pT2 pStr (pSm pStr (pL (pSm pInt (pSm pStr (pL pInt))))))) (("rule" : Str), ([] : List (Str × List Int)), ("key_1" : Str), (("blame" : Str), (.inr ([]) : (Str ⊕ (List (Int ⊕ (Str ⊕ (List Int))))))))) (x_dispHT (Es := fun (b_ : (Unit × (Unit × (Unit × ((Unit × (Unit × Unit)) × Unit))))) => [pStr ("rule" : Str), (pM (κ := Str) (pL pInt)) ([] : List (Str × List Int)), pStr ("key_1" : Str), (pT2 pStr (pSm pStr (pL (pSm pInt (pSm pStr (pL pInt)))))) (("blame" : Str), (.inr ([]) : (Str ⊕ (List (Int ⊕ (Str ⊕ (List Int)))))))]) (a_cons x_str (fun _ => a_cons (x_kd (E := fun (b_ : Unit) => (pM (κ := Str) (pL pInt)) ([] : List (Str × List Int))) (x_frz (o_kd (E := fun (b_ : Unit) => (oM (κ := Str) (pL pInt)) ([] : List (Str × List Int))) (x_dict0 (κ := Str) (pL pInt))))) (fun _ => a_cons x_str (fun _ => a_cons (x_kd (E := fun (b_ : (Unit × (Unit × Unit))) => (pT2 pStr (pSm pStr (pL (pSm pInt (pSm pStr (pL pInt)))))) (("blame" : Str), (.inr ([]) : (Str ⊕ (List (Int ⊕ (Str ⊕ (List Int)))))))) (x_tup2 (a_cons x_str (fun _ => a_cons (co_inr (E := pStr) (G := (pL (pSm pInt (pSm pStr (pL pInt))))) (x_kd (E := fun (b_ : Unit) => (pL (pSm pInt (pSm pStr (pL pInt)))) ([])) (x_frz (o_kd (E := fun (b_ : Unit) => (oL (pSm pInt (pSm pStr (pL pInt)))) ([])) (x_nil (pSm pInt (pSm pStr (pL pInt)))))))) (fun _ => a_nil))) pStr (pSm pStr (pL (pSm pInt (pSm pStr (pL pInt))))) (fun (b : (Unit × (Unit × Unit))) => ("blame" : Str)) (fun (b : (Unit × (Unit × Unit))) => (.inr ([]) : (Str ⊕ (List (Int ⊕ (Str ⊕ (List Int))))))))) (fun _ => a_nil))))) (fun _ => by simp))))) (fun _ => a_nil))) (fun _ => rfl) (fun _ => by simp))) fun (b312 : ((Unit × (Unit × (Unit × Unit))) × ((Unit × (Unit × (Unit × ((Unit × (Unit × Unit)) × Unit)))) × Unit))) x311 v314 => s_T (T := grd (rg a1 = true) ((forS (rngL 0 a1.toNat) (x311 : (List ((Str × List (Str × List Int) × Str) ⊕ ((Str × List (Str × List Int) × Str × (Str × (Str ⊕ (List (Int ⊕ (Str ⊕ (List Int))))))) ⊕ (Str × List (Str × List Int) × Str × Int × Int))))) fun x317 s316 => grd (s316.length < sizeLine) (some (s316 ++ [(.inr (.inr (("join" : Str), ([] : List (Str × List Int)), ("x" : Str), (x317 + (2 : Int)), (x317 + (2 : Int))) : ((Str × List (Str × List Int) × Str × (Str × (Str ⊕ (List (Int ⊕ (Str ⊕ (List Int))))))) ⊕ (Str × List (Str × List Int) × Str × Int × Int))) : ((Str × List (Str × List Int) × Str) ⊕ ((Str × List (Str × List Int) × Str × (Str × (Str ⊕ (List (Int ⊕ (Str ⊕ (List Int))))))) ⊕ (Str × List (Str × List Int) × Str × Int × Int))))]))).bind fun s318 => ((M_rests_on s318 (a1 + (2 : Int))).bind okx).bind fun r319 => grd (okG (dgL dgStr) r319 ([("key_1" : Str)]) = true) (((if (decide (r319 = ([("key_1" : Str)]))) = true then ((M_rests_on s318 (1 : Int)).bind okx).bind fun r321 => grd (okG (dgL dgStr) r321 ([]) = true) (some ((decide (r321 = ([]))), ())) else some (false, ()))).bind fun c322 => some (c322.1)))) (s_forS PassesOwn.never (fun (b_ : Unit) (s_ : (List ((Str × List (Str × List Int) × Str) ⊕ ((Str × List (Str × List Int) × Str × (Str × (Str ⊕ (List (Int ⊕ (Str ⊕ (List Int))))))) ⊕ (Str × List (Str × List Int) × Str × Int × Int))))) => ([some (pInt a1), some (pV v314), none], [⟨v314, (oL (pSm (pT3 pStr (pM (κ := Str) (pL pInt)) pStr) (pSm (pT4 pStr (pM (κ := Str) (pL pInt)) pStr (pT2 pStr (pSm pStr (pL (pSm pInt (pSm pStr (pL pInt))))))) (pT5 pStr (pM (κ := Str) (pL pInt)) pStr pInt pInt)))) s_, none⟩])) (fun (b_ : Unit) => x311) (i_rng1 m_range (x_var (p := pInt a1) 0)) (pg_name (i := 2) sc_l_long_holds.nd rfl (by first | exact .inl rfl | exact .inr rfl)) (tg_name 2) (fun _ => ⟨rfl, rfl, trivial⟩) (fun _ => List.Sublist.refl _) (fun b315 x317 s316 => s_T (T := grd (s316.length < sizeLine) (some (s316 ++ [(.inr (.inr (("join" : Str), ([] : List (Str × List Int)), ("x" : Str), (x317 + (2 : Int)), (x317 + (2 : Int))) : ((Str × List (Str × List Int) × Str × (Str × (Str ⊕ (List (Int ⊕ (Str ⊕ (List Int))))))) ⊕ (Str × List (Str × List Int) × Str × Int × Int))) : ((Str × List (Str × List Int) × Str) ⊕ ((Str × List (Str × List Int) × Str × (Str × (Str ⊕ (List (Int ⊕ (Str ⊕ (List Int))))))) ⊕ (Str × List (Str × List Int) × Str × Int × Int))))]))) (s_expr (x_app 0 (x_var (p := pV v314) 1) (fun _ => co_inr (E := (pT3 pStr (pM (κ := Str) (pL pInt)) pStr)) (G := (pSm (pT4 pStr (pM (κ := Str) (pL pInt)) pStr (pT2 pStr (pSm pStr (pL (pSm pInt (pSm pStr (pL pInt))))))) (pT5 pStr (pM (κ := Str) (pL pInt)) pStr pInt pInt))) (co_inr (E := (pT4 pStr (pM (κ := Str) (pL pInt)) pStr (pT2 pStr (pSm pStr (pL (pSm pInt (pSm pStr (pL pInt)))))))) (G := (pT5 pStr (pM (κ := Str) (pL pInt)) pStr pInt pInt)) (x_kd (E := fun (b_ : (Unit × (Unit × (Unit × ((Unit × Unit) × ((Unit × Unit) × Unit)))))) => (pT5 pStr (pM (κ := Str) (pL pInt)) pStr pInt pInt) (("join" : Str), ([] : List (Str × List Int)), ("x" : Str), (x317 + (2 : Int)), (x317 + (2 : Int)))) (x_dispHT (Es := fun (b_ : (Unit × (Unit × (Unit × ((Unit × Unit) × ((Unit × Unit) × Unit)))))) => [pStr ("join" : Str), (pM (κ := Str) (pL pInt)) ([] : List (Str × List Int)), pStr ("x" : Str), pInt (x317 + (2 : Int)), pInt (x317 + (2 : Int))]) (a_cons x_str (fun _ => a_cons (x_kd (E := fun (b_ : Unit) => (pM (κ := Str) (pL pInt)) ([] : List (Str × List Int))) (x_frz (o_kd (E := fun (b_ : Unit) => (oM (κ := Str) (pL pInt)) ([] : List (Str × List Int))) (x_dict0 (κ := Str) (pL pInt))))) (fun _ => a_cons x_str (fun _ => a_cons (x_kd (E := fun (b_ : (Unit × Unit)) => pInt (x317 + (2 : Int))) (x_add (x_var (p := pInt x317) 2) (fun _ => x_int (i := 2)))) (fun _ => a_cons (x_kd (E := fun (b_ : (Unit × Unit)) => pInt (x317 + (2 : Int))) (x_add (x_var (p := pInt x317) 2) (fun _ => x_int (i := 2)))) (fun _ => a_nil)))))) (fun _ => by simp))))) (fun _ => rfl) (fun _ _ => rfl)) fun (b323 : (Unit × (Unit × (Unit × (Unit × ((Unit × Unit) × ((Unit × Unit) × Unit))))))) => s_end (s316 ++ [(.inr (.inr (("join" : Str), ([] : List (Str × List Int)), ("x" : Str), (x317 + (2 : Int)), (x317 + (2 : Int))) : ((Str × List (Str × List Int) × Str × (Str × (Str ⊕ (List (Int ⊕ (Str ⊕ (List Int))))))) ⊕ (Str × List (Str × List Int) × Str × Int × Int))) : ((Str × List (Str × List Int) × Str) ⊕ ((Str × List (Str × List Int) × Str × (Str × (Str ⊕ (List (Int ⊕ (Str ⊕ (List Int))))))) ⊕ (Str × List (Str × List Int) × Str × Int × Int))))]) rfl ⟨rfl, rfl, trivial⟩ (List.Sublist.refl _))) fun b315 s318 => s_frz (i := 1) (c := ⟨v314, (oL (pSm (pT3 pStr (pM (κ := Str) (pL pInt)) pStr) (pSm (pT4 pStr (pM (κ := Str) (pL pInt)) pStr (pT2 pStr (pSm pStr (pL (pSm pInt (pSm pStr (pL pInt))))))) (pT5 pStr (pM (κ := Str) (pL pInt)) pStr pInt pInt)))) s318, none⟩) 0 (s_T (T := ((M_rests_on s318 (a1 + (2 : Int))).bind okx).bind fun r319 => grd (okG (dgL dgStr) r319 ([("key_1" : Str)]) = true) (((if (decide (r319 = ([("key_1" : Str)]))) = true then ((M_rests_on s318 (1 : Int)).bind okx).bind fun r321 => grd (okG (dgL dgStr) r321 ([]) = true) (some ((decide (r321 = ([]))), ())) else some (false, ()))).bind fun c322 => some (c322.1))) (s_ret (P := (fun _ => [])) (Rp := pBl) (ι := id) (rv := fun (b : ((((Unit × ((Unit × Unit) × Unit)) × (List Str)) × (Unit × Unit)) × (Bool × Unit))) => b.2.1) (fun _ _ _ h => h) (x_kd (x_kd (E := fun (b_ : ((((Unit × ((Unit × Unit) × Unit)) × (List Str)) × (Unit × Unit)) × (Bool × Unit))) => pBl b_.2.1) (v_andM (ΔS := fun (b_ : (((Unit × ((Unit × Unit) × Unit)) × (List Str)) × (Unit × Unit))) (s_ : Unit) => []) (s1 := fun (b_ : (((Unit × ((Unit × Unit) × Unit)) × (List Str)) × (Unit × Unit))) => ()) (s2 := fun (b_ : (((Unit × ((Unit × Unit) × Unit)) × (List Str)) × (Unit × Unit))) (c_ : (((Unit × (Unit × Unit)) × (List Str)) × Unit)) => ()) (x_kd (E := fun (b_ : (((Unit × ((Unit × Unit) × Unit)) × (List Str)) × (Unit × Unit))) => pBl (decide (b_.1.2 = ([("key_1" : Str)])))) (x_eqG (dgL dgStr) hr.units (x_kd (E := fun (b_ : ((Unit × ((Unit × Unit) × Unit)) × (List Str))) => (pL pStr) b_.2) (x_frz (o_kd (E := fun (b_ : ((Unit × ((Unit × Unit) × Unit)) × (List Str))) => (oL pStr) b_.2) (x_Zo (kk := 2) (xs := fun (b : (Unit × ((Unit × Unit) × Unit))) => (s318, (a1 + (2 : Int)))) k_rests_on (hr.mono (by decide)) g_rests_on F_rests_on.kp b_rests_on (a_cons (x_var (p := (pL (pSm (pT3 pStr (pM (κ := Str) (pL pInt)) pStr) (pSm (pT4 pStr (pM (κ := Str) (pL pInt)) pStr (pT2 pStr (pSm pStr (pL (pSm pInt (pSm pStr (pL pInt))))))) (pT5 pStr (pM (κ := Str) (pL pInt)) pStr pInt pInt)))) s318) 1) (fun _ => a_cons (x_kd (E := fun (b_ : (Unit × Unit)) => pInt (a1 + (2 : Int))) (x_add (x_var (p := pInt a1) 0) (fun _ => x_int (i := 2)))) (fun _ => a_nil))))))) (fun _ => x_kd (E := fun (b_ : (Unit × Unit)) => (pL pStr) ([("key_1" : Str)])) (x_frz (o_kd (E := fun (b_ : (Unit × Unit)) => (oL pStr) ([("key_1" : Str)])) (x_disp pStr (fun _ => [_]) (a_cons x_str (fun _ => a_nil)) (fun _ => rfl) (fun _ => by simp))))))) (fun _ => v_one (x_kd (E := fun (b_ : (((Unit × (Unit × Unit)) × (List Str)) × Unit)) => pBl (decide (b_.1.2 = ([])))) (x_eqG (dgL dgStr) hr.units (x_kd (E := fun (b_ : ((Unit × (Unit × Unit)) × (List Str))) => (pL pStr) b_.2) (x_frz (o_kd (E := fun (b_ : ((Unit × (Unit × Unit)) × (List Str))) => (oL pStr) b_.2) (x_Zo (kk := 2) (xs := fun (b : (Unit × (Unit × Unit))) => (s318, (1 : Int))) k_rests_on (hr.mono (by decide)) g_rests_on F_rests_on.kp b_rests_on (a_cons (x_var (p := (pL (pSm (pT3 pStr (pM (κ := Str) (pL pInt)) pStr) (pSm (pT4 pStr (pM (κ := Str) (pL pInt)) pStr (pT2 pStr (pSm pStr (pL (pSm pInt (pSm pStr (pL pInt))))))) (pT5 pStr (pM (κ := Str) (pL pInt)) pStr pInt pInt)))) s318) 1) (fun _ => a_cons (x_int (i := 1)) (fun _ => a_nil))))))) (fun _ => x_kd (E := fun (b_ : Unit) => (pL pStr) ([])) (x_frz (o_kd (E := fun (b_ : Unit) => (oL pStr) ([])) (x_nil pStr))))))) (fun _ => rfl) (fun _ _ => rfl)))) (fun _ => List.Sublist.refl _)))))) (by unfold M_l_long_holds; rfl)
end
end My
end
section
set_option maxHeartbeats 4000000
set_option synthInstance.maxSize 2000
namespace My
open PySem PySem.Spec PyProof.Rows L2 L3
section
variable {P : Program} {w : World} {K : PySem.W.Frag} {mg : Str → Option Value} {base : Heap}
theorem sc_law : FnScope ["_law_script", "_law_stream_here", "_law_keys", "_law_most", "_law_lines", "_law_rests_here", "_law_k", "_law_handed", "_law_half", "_law_number_here", "_law_line"] ["_law_script"] (defScope (top 27)) := ⟨rfl, rfl, rfl, by decide +kernel, rfl, by decide +kernel, by decide +kernel⟩
theorem ok_law {f : Addr} {fd : FuncData} (C : Ev P K mg) (FD : FnP K "law" (top 27) f fd)   : FnOk P w K mg base CX0 5 f fd ["_law_script"] (Sp_S K M_law) := by
  have m_len := C.m_len
  have m_max := C.m_max
  have m_min := C.m_min
  have m_range := C.m_range
  obtain ⟨f_l_stream, fd_l_stream, F_l_stream, g_l_stream⟩ := C.f_l_stream
  have k_l_stream := ok_l_stream (P := P) (w := w) (base := base) C F_l_stream
  have b_l_stream : Binds K fd_l_stream ["_law_script", "_law_k"] [] := F_l_stream.bindsN fun _ _ _ _ _ _ us hl => match us, hl with | [_, _], _ => rfl
  obtain ⟨f_l_next, fd_l_next, F_l_next, g_l_next⟩ := C.f_l_next
  have k_l_next := ok_l_next (P := P) (w := w) (base := base) C F_l_next
  have b_l_next : Binds K fd_l_next ["_law_stream_here", "_law_size"] [] := F_l_next.bindsN fun _ _ _ _ _ _ us hl => match us, hl with | [_, _], _ => rfl
  obtain ⟨f_l_word, fd_l_word, F_l_word, g_l_word⟩ := C.f_l_word
  have k_l_word := ok_l_word (P := P) (w := w) (base := base) C F_l_word
  have b_l_word : Binds K fd_l_word ["_law_stream_here"] [] := F_l_word.bindsN fun _ _ _ _ _ _ us hl => match us, hl with | [_], _ => rfl
  obtain ⟨f_l_line_copy, fd_l_line_copy, F_l_line_copy, g_l_line_copy⟩ := C.f_l_line_copy
  have k_l_line_copy := ok_l_line_copy (P := P) (w := w) (base := base) C F_l_line_copy
  have b_l_line_copy : Binds K fd_l_line_copy ["_law_line"] [] := F_l_line_copy.bindsN fun _ _ _ _ _ _ us hl => match us, hl with | [_], _ => rfl
  obtain ⟨f_l_unknown, fd_l_unknown, F_l_unknown, g_l_unknown⟩ := C.f_l_unknown
  have k_l_unknown := ok_l_unknown (P := P) (w := w) (base := base) C F_l_unknown
  have b_l_unknown : Binds K fd_l_unknown ["_law_lines", "_law_number_here"] [] := F_l_unknown.bindsN fun _ _ _ _ _ _ us hl => match us, hl with | [_, _], _ => rfl
  obtain ⟨f_l_long_holds, fd_l_long_holds, F_l_long_holds, g_l_long_holds⟩ := C.f_l_long_holds
  have k_l_long_holds := ok_l_long_holds (P := P) (w := w) (base := base) C F_l_long_holds
  have b_l_long_holds : Binds K fd_l_long_holds ["_law_size"] [] := F_l_long_holds.bindsN fun _ _ _ _ _ _ us hl => match us, hl with | [_], _ => rfl
  obtain ⟨f_l_keys_hold, fd_l_keys_hold, F_l_keys_hold, g_l_keys_hold⟩ := C.f_l_keys_hold
  have k_l_keys_hold := ok_l_keys_hold (P := P) (w := w) (base := base) C F_l_keys_hold
  have b_l_keys_hold : Binds K fd_l_keys_hold ["_law_lines", "_law_number_here", "_law_expected"] [] := F_l_keys_hold.bindsN fun _ _ _ _ _ _ us hl => match us, hl with | [_, _, _], _ => rfl
  obtain ⟨f_l_log_line, fd_l_log_line, F_l_log_line, g_l_log_line⟩ := C.f_l_log_line
  have k_l_log_line := ok_l_log_line (P := P) (w := w) (base := base) C F_l_log_line
  have b_l_log_line : Binds K fd_l_log_line ["_law_stream_here", "_law_keys", "_law_size"] [] := F_l_log_line.bindsN fun _ _ _ _ _ _ us hl => match us, hl with | [_, _, _], _ => rfl
  obtain ⟨f_l_rests, fd_l_rests, F_l_rests, g_l_rests⟩ := C.f_l_rests
  have k_l_rests := ok_l_rests (P := P) (w := w) (base := base) C F_l_rests
  have b_l_rests : Binds K fd_l_rests ["_law_line", "_law_rests_here"] [] := F_l_rests.bindsN fun _ _ _ _ _ _ us hl => match us, hl with | [_, _], _ => rfl
  refine fn_S FD sc_law rfl fun cdv A outer s H E hr Mq a1 => ?_
  exact s_is (s_T (T := (M_l_stream a1 (0 : Int)).bind fun r324 => (some (r324 : List Int)).bind fun x325 => (M_l_next x325 (4 : Int)).bind fun r329 => grd (rg ((1 : Int) + (r329.1)) = true) ((compM (rngL 0 ((1 : Int) + (r329.1)).toNat) (r329.2) (fun x331 s333 => if true = true then (M_l_word s333).bind fun r335 => some (some (r335.1), r335.2) else some (none, s333))).bind fun r336 => (some (r336.1 : List Str)).bind fun x337 => (M_l_next (r336.2) (6 : Int)).bind fun r341 => (atI ([(12 : Int), (12 : Int), (12 : Int), (12 : Int), (12 : Int), (40 : Int)]) (r341.1)).bind fun x342 => (some (x342 : Int)).bind fun x343 => (some ([] : List ((Str × List (Str × List Int) × Str) ⊕ ((Str × List (Str × List Int) × Str × (Str × (Str ⊕ (List (Int ⊕ (Str ⊕ (List Int))))))) ⊕ (Str × List (Str × List Int) × Str × Int × Int))))).bind fun x345 => (some ([] : List (List Str))).bind fun x349 => grd (rg (min (max (1 : Int) ((a1.length : Int) - (1 : Int))) x343) = true) ((forS (rngL 0 (min (max (1 : Int) ((a1.length : Int) - (1 : Int))) x343).toNat) ((x349, x345) : (List (List Str)) × (List ((Str × List (Str × List Int) × Str) ⊕ ((Str × List (Str × List Int) × Str × (Str × (Str ⊕ (List (Int ⊕ (Str ⊕ (List Int))))))) ⊕ (Str × List (Str × List Int) × Str × Int × Int))))) fun x355 s354 => (M_l_stream a1 ((1 : Int) + x355)).bind fun r401 => (M_l_log_line r401 x337 x355).bind fun r403 => (some (r403.1 : ((Str × List (Str × List Int) × Str) ⊕ ((Str × List (Str × List Int) × Str × (Str × (Str ⊕ (List (Int ⊕ (Str ⊕ (List Int))))))) ⊕ (Str × List (Str × List Int) × Str × Int × Int))))).bind fun x404 => grd ((s354.2).length < sizeLine) ((M_l_rests x404 (s354.1)).bind fun r407 => grd ((r407.2).length < sizeLine) (some (((r407.2) ++ [r407.1]), ((s354.2) ++ [x404]))))).bind fun s356 => (compM (s356.2) () (fun x358 s360 => if true = true then (M_l_line_copy x358).bind fun r362 => some (some r362, ()) else some (none, ()))).bind fun r363 => (some (r363.1 : List ((Str × List (Str × List Int) × Str) ⊕ ((Str × List (Str × List Int) × Str × (Str × (Str ⊕ (List (Int ⊕ (Str ⊕ (List Int))))))) ⊕ (Str × List (Str × List Int) × Str × Int × Int))))).bind fun x364 => grd (dv (2 : Int) = true) ((some ((cutL x364 none (some ((x364.length : Int) / (2 : Int)))) : List ((Str × List (Str × List Int) × Str) ⊕ ((Str × List (Str × List Int) × Str × (Str × (Str ⊕ (List (Int ⊕ (Str ⊕ (List Int))))))) ⊕ (Str × List (Str × List Int) × Str × Int × Int))))).bind fun x368 => grd (rg ((s356.2).length : Int) = true) ((forL (rngL 0 ((s356.2).length : Int).toNat) (() : Unit) fun x372 s371 => (atI (s356.1) x372).bind fun x392 => (M_l_keys_hold x364 (x372 + (1 : Int)) x392).bind fun r393 => if (!r393) = true then inB (some (Tm.rt false)) else ((if (decide (x372 < (x368.length : Int))) = true then (atI (s356.1) x372).bind fun x397 => (M_l_keys_hold x368 (x372 + (1 : Int)) x397).bind fun r398 => some ((!r398), ()) else some (false, ()))).bind fun c399 => if c399.1 = true then inB (some (Tm.rt false)) else some (Bo.nx ())).bind (boK (fun s373 => (forL ([(0 : Int), (-(1 : Int)), (((s356.2).length : Int) + (1 : Int)), ((10 : Int) ^ (30 : Int).toNat)]) (() : Unit) fun x376 s375 => (M_l_unknown x364 x376).bind fun r387 => ((if (!r387) = true then some (true, ()) else (M_l_unknown ([]) x376).bind fun r389 => some ((!r389), ()))).bind fun c390 => if c390.1 = true then inB (some (Tm.rt false)) else some (Bo.nx ())).bind (boK (fun s377 => (M_l_unknown x368 ((x368.length : Int) + (1 : Int))).bind fun r378 => ((if (!r378) = true then some (true, ()) else grd (lokG (deSm (deT3 (deG dgStr injStr (of_decide_eq_true rfl)) (deM (κ := Str) (deG (dgL dgInt) (injL injInt) (of_decide_eq_true rfl))) (deG dgStr injStr (of_decide_eq_true rfl))) (deSm (deT4 (deG dgStr injStr (of_decide_eq_true rfl)) (deM (κ := Str) (deG (dgL dgInt) (injL injInt) (of_decide_eq_true rfl))) (deG dgStr injStr (of_decide_eq_true rfl)) (deT2 (deG dgStr injStr (of_decide_eq_true rfl)) (deSm (deG dgStr injStr (of_decide_eq_true rfl)) (deL (deSm (deG dgInt injInt (of_decide_eq_true rfl)) (deSm (deG dgStr injStr (of_decide_eq_true rfl)) (deG (dgL dgInt) (injL injInt) (of_decide_eq_true rfl)))))))) (deT5 (deG dgStr injStr (of_decide_eq_true rfl)) (deM (κ := Str) (deG (dgL dgInt) (injL injInt) (of_decide_eq_true rfl))) (deG dgStr injStr (of_decide_eq_true rfl)) (deG dgInt injInt (of_decide_eq_true rfl)) (deG dgInt injInt (of_decide_eq_true rfl))))).ok x364 (s356.2) = true) (some ((!leqG (deSm (deT3 (deG dgStr injStr (of_decide_eq_true rfl)) (deM (κ := Str) (deG (dgL dgInt) (injL injInt) (of_decide_eq_true rfl))) (deG dgStr injStr (of_decide_eq_true rfl))) (deSm (deT4 (deG dgStr injStr (of_decide_eq_true rfl)) (deM (κ := Str) (deG (dgL dgInt) (injL injInt) (of_decide_eq_true rfl))) (deG dgStr injStr (of_decide_eq_true rfl)) (deT2 (deG dgStr injStr (of_decide_eq_true rfl)) (deSm (deG dgStr injStr (of_decide_eq_true rfl)) (deL (deSm (deG dgInt injInt (of_decide_eq_true rfl)) (deSm (deG dgStr injStr (of_decide_eq_true rfl)) (deG (dgL dgInt) (injL injInt) (of_decide_eq_true rfl)))))))) (deT5 (deG dgStr injStr (of_decide_eq_true rfl)) (deM (κ := Str) (deG (dgL dgInt) (injL injInt) (of_decide_eq_true rfl))) (deG dgStr injStr (of_decide_eq_true rfl)) (deG dgInt injInt (of_decide_eq_true rfl)) (deG dgInt injInt (of_decide_eq_true rfl))))).eqv x364 (s356.2)), ())))).bind fun c379 => if c379.1 = true then some false else (M_l_next (r341.2) (16 : Int)).bind fun r381 => ((if (decide ((r381.1) < (15 : Int))) = true then some (true, r381.2) else (M_l_next (r381.2) (1500 : Int)).bind fun r384 => (M_l_long_holds ((1 : Int) + (r384.1))).bind fun r385 => some (r385, r384.2))).bind fun c386 => some (c386.1)) id)) id)))))) (s_letO (i := 1) (oL pInt) sc_law.nd (o_kd (E := fun (b_ : ((Unit × Unit) × (List Int))) => (oL pInt) b_.2) (x_FF_o (kk := 1) (E1 := (pS K)) (E2 := pInt) k_l_stream (hr.mono (by decide)) g_l_stream F_l_stream.kp b_l_stream (x_var (p := (pS K) a1) 0) (fun _ => x_int (i := 0)))) fun (b326 : ((Unit × Unit) × (List Int))) x325 v328 => s_T (T := (M_l_next x325 (4 : Int)).bind fun r329 => grd (rg ((1 : Int) + (r329.1)) = true) ((compM (rngL 0 ((1 : Int) + (r329.1)).toNat) (r329.2) (fun x331 s333 => if true = true then (M_l_word s333).bind fun r335 => some (some (r335.1), r335.2) else some (none, s333))).bind fun r336 => (some (r336.1 : List Str)).bind fun x337 => (M_l_next (r336.2) (6 : Int)).bind fun r341 => (atI ([(12 : Int), (12 : Int), (12 : Int), (12 : Int), (12 : Int), (40 : Int)]) (r341.1)).bind fun x342 => (some (x342 : Int)).bind fun x343 => (some ([] : List ((Str × List (Str × List Int) × Str) ⊕ ((Str × List (Str × List Int) × Str × (Str × (Str ⊕ (List (Int ⊕ (Str ⊕ (List Int))))))) ⊕ (Str × List (Str × List Int) × Str × Int × Int))))).bind fun x345 => (some ([] : List (List Str))).bind fun x349 => grd (rg (min (max (1 : Int) ((a1.length : Int) - (1 : Int))) x343) = true) ((forS (rngL 0 (min (max (1 : Int) ((a1.length : Int) - (1 : Int))) x343).toNat) ((x349, x345) : (List (List Str)) × (List ((Str × List (Str × List Int) × Str) ⊕ ((Str × List (Str × List Int) × Str × (Str × (Str ⊕ (List (Int ⊕ (Str ⊕ (List Int))))))) ⊕ (Str × List (Str × List Int) × Str × Int × Int))))) fun x355 s354 => (M_l_stream a1 ((1 : Int) + x355)).bind fun r401 => (M_l_log_line r401 x337 x355).bind fun r403 => (some (r403.1 : ((Str × List (Str × List Int) × Str) ⊕ ((Str × List (Str × List Int) × Str × (Str × (Str ⊕ (List (Int ⊕ (Str ⊕ (List Int))))))) ⊕ (Str × List (Str × List Int) × Str × Int × Int))))).bind fun x404 => grd ((s354.2).length < sizeLine) ((M_l_rests x404 (s354.1)).bind fun r407 => grd ((r407.2).length < sizeLine) (some (((r407.2) ++ [r407.1]), ((s354.2) ++ [x404]))))).bind fun s356 => (compM (s356.2) () (fun x358 s360 => if true = true then (M_l_line_copy x358).bind fun r362 => some (some r362, ()) else some (none, ()))).bind fun r363 => (some (r363.1 : List ((Str × List (Str × List Int) × Str) ⊕ ((Str × List (Str × List Int) × Str × (Str × (Str ⊕ (List (Int ⊕ (Str ⊕ (List Int))))))) ⊕ (Str × List (Str × List Int) × Str × Int × Int))))).bind fun x364 => grd (dv (2 : Int) = true) ((some ((cutL x364 none (some ((x364.length : Int) / (2 : Int)))) : List ((Str × List (Str × List Int) × Str) ⊕ ((Str × List (Str × List Int) × Str × (Str × (Str ⊕ (List (Int ⊕ (Str ⊕ (List Int))))))) ⊕ (Str × List (Str × List Int) × Str × Int × Int))))).bind fun x368 => grd (rg ((s356.2).length : Int) = true) ((forL (rngL 0 ((s356.2).length : Int).toNat) (() : Unit) fun x372 s371 => (atI (s356.1) x372).bind fun x392 => (M_l_keys_hold x364 (x372 + (1 : Int)) x392).bind fun r393 => if (!r393) = true then inB (some (Tm.rt false)) else ((if (decide (x372 < (x368.length : Int))) = true then (atI (s356.1) x372).bind fun x397 => (M_l_keys_hold x368 (x372 + (1 : Int)) x397).bind fun r398 => some ((!r398), ()) else some (false, ()))).bind fun c399 => if c399.1 = true then inB (some (Tm.rt false)) else some (Bo.nx ())).bind (boK (fun s373 => (forL ([(0 : Int), (-(1 : Int)), (((s356.2).length : Int) + (1 : Int)), ((10 : Int) ^ (30 : Int).toNat)]) (() : Unit) fun x376 s375 => (M_l_unknown x364 x376).bind fun r387 => ((if (!r387) = true then some (true, ()) else (M_l_unknown ([]) x376).bind fun r389 => some ((!r389), ()))).bind fun c390 => if c390.1 = true then inB (some (Tm.rt false)) else some (Bo.nx ())).bind (boK (fun s377 => (M_l_unknown x368 ((x368.length : Int) + (1 : Int))).bind fun r378 => ((if (!r378) = true then some (true, ()) else grd (lokG (deSm (deT3 (deG dgStr injStr (of_decide_eq_true rfl)) (deM (κ := Str) (deG (dgL dgInt) (injL injInt) (of_decide_eq_true rfl))) (deG dgStr injStr (of_decide_eq_true rfl))) (deSm (deT4 (deG dgStr injStr (of_decide_eq_true rfl)) (deM (κ := Str) (deG (dgL dgInt) (injL injInt) (of_decide_eq_true rfl))) (deG dgStr injStr (of_decide_eq_true rfl)) (deT2 (deG dgStr injStr (of_decide_eq_true rfl)) (deSm (deG dgStr injStr (of_decide_eq_true rfl)) (deL (deSm (deG dgInt injInt (of_decide_eq_true rfl)) (deSm (deG dgStr injStr (of_decide_eq_true rfl)) (deG (dgL dgInt) (injL injInt) (of_decide_eq_true rfl)))))))) (deT5 (deG dgStr injStr (of_decide_eq_true rfl)) (deM (κ := Str) (deG (dgL dgInt) (injL injInt) (of_decide_eq_true rfl))) (deG dgStr injStr (of_decide_eq_true rfl)) (deG dgInt injInt (of_decide_eq_true rfl)) (deG dgInt injInt (of_decide_eq_true rfl))))).ok x364 (s356.2) = true) (some ((!leqG (deSm (deT3 (deG dgStr injStr (of_decide_eq_true rfl)) (deM (κ := Str) (deG (dgL dgInt) (injL injInt) (of_decide_eq_true rfl))) (deG dgStr injStr (of_decide_eq_true rfl))) (deSm (deT4 (deG dgStr injStr (of_decide_eq_true rfl)) (deM (κ := Str) (deG (dgL dgInt) (injL injInt) (of_decide_eq_true rfl))) (deG dgStr injStr (of_decide_eq_true rfl)) (deT2 (deG dgStr injStr (of_decide_eq_true rfl)) (deSm (deG dgStr injStr (of_decide_eq_true rfl)) (deL (deSm (deG dgInt injInt (of_decide_eq_true rfl)) (deSm (deG dgStr injStr (of_decide_eq_true rfl)) (deG (dgL dgInt) (injL injInt) (of_decide_eq_true rfl)))))))) (deT5 (deG dgStr injStr (of_decide_eq_true rfl)) (deM (κ := Str) (deG (dgL dgInt) (injL injInt) (of_decide_eq_true rfl))) (deG dgStr injStr (of_decide_eq_true rfl)) (deG dgInt injInt (of_decide_eq_true rfl)) (deG dgInt injInt (of_decide_eq_true rfl))))).eqv x364 (s356.2)), ())))).bind fun c379 => if c379.1 = true then some false else (M_l_next (r341.2) (16 : Int)).bind fun r381 => ((if (decide ((r381.1) < (15 : Int))) = true then some (true, r381.2) else (M_l_next (r381.2) (1500 : Int)).bind fun r384 => (M_l_long_holds ((1 : Int) + (r384.1))).bind fun r385 => some (r385, r384.2))).bind fun c386 => some (c386.1)) id)) id)))))) (s_letOA (i := 2) (oL pStr) (a_lc (i := 2) (own := [("_law_k", 6)]) (C := fun (b_ : (Unit × ((Unit × Unit) × (Int × (List Int))))) (s_ : (List Int)) => [⟨v328, (oL pInt) s_, none⟩]) (s0 := fun (b_ : (Unit × ((Unit × Unit) × (Int × (List Int))))) => b_.2.2.2) (s2 := fun (b_ : (Unit × ((Unit × Unit) × (Int × (List Int))))) (x_ : Int) (s_ : (List Int)) (c_ : Unit) => s_) (s3 := fun (b_ : (Unit × ((Unit × Unit) × (Int × (List Int))))) (x_ : Int) (s_ : (List Int)) (c_ : Unit) (d_ : (Unit × (Str × (List Int)))) => d_.2.2) (Ex := pInt) (Ee := pStr) (δ := Str) (y := fun (b_ : (Unit × ((Unit × Unit) × (Int × (List Int))))) (x_ : Int) (s_ : (List Int)) (c_ : Unit) (d_ : (Unit × (Str × (List Int)))) => d_.2.1) (T2 := fun (b_ : (Unit × ((Unit × Unit) × (Int × (List Int))))) (x_ : Int) (s_ : (List Int)) (c_ : Unit) => (M_l_word s_).bind fun r335 => some (some (r335.1), r335.2)) (c := fun (b_ : (Unit × ((Unit × Unit) × (Int × (List Int))))) (x_ : Int) (s_ : (List Int)) (c_ : Unit) => true) (f := fun (b_ : (Unit × ((Unit × Unit) × (Int × (List Int))))) (x_ : Int) (s_ : (List Int)) => if true = true then (M_l_word s_).bind fun r335 => some (some (r335.1), r335.2) else some (none, s_)) sc_law.nd (i_rng1 m_range (x_kd (E := fun (b_ : (Unit × ((Unit × Unit) × (Int × (List Int))))) => pInt ((1 : Int) + (b_.2.2.1))) (x_add (x_int (i := 1)) (fun _ => x_kd (E := fun (b_ : ((Unit × Unit) × (Int × (List Int)))) => pInt b_.2.1) (x_OF_f (kk := 1) (E1 := (oL pInt)) (E2 := pInt) (s1 := fun (_ : Unit) (_ : Unit) => x325) (v1 := v328) k_l_next (hr.mono (by decide)) g_l_next F_l_next.kp b_l_next 0 (x_var (p := pV v328) 1) (fun _ => x_int (i := 4)) (fun _ _ => rfl)))))) (blkOk_by (own := [("_law_k", 6)]) (N := ["_law_script", "_law_stream_here", "_law_keys", "_law_most", "_law_lines", "_law_rests_here", "_law_k", "_law_handed", "_law_half", "_law_number_here", "_law_line"]) (sc := (defScope (top 27))) (by decide +kernel)) (fun _ _ _ _ _ => pg_name (i := 6) sc_law.nd rfl (by first | exact .inl rfl | exact .inr rfl)) (tw_name 6) (fun _ => rfl) (by exact fun q334 _ _ _ _ _ b330 x331 s333 => pts_T) (by exact fun q334 _ _ _ _ _ b330 x331 s333 _ => x_out (x_kd (E := fun (b_ : (Unit × (Str × (List Int)))) => pStr b_.2.1) (x_O_f (kk := 2) (E1 := (oL pInt)) (s1 := fun (_ : Unit) => s333) (v1 := v328) k_l_word (hr.mono (by decide)) g_l_word F_l_word.kp b_l_word 0 (x_var (p := pV v328) 1) (fun _ => rfl)))) (sw_true rfl rfl rfl (by decide +kernel))) fun (b338 : ((Unit × ((Unit × Unit) × (Int × (List Int)))) × ((List Str) × (List Int)))) x337 v340 => s_frz (i := 2) (c := ⟨v340, (oL pStr) x337, none⟩) 0 (s_T (T := (M_l_next (b338.2.2) (6 : Int)).bind fun r341 => (atI ([(12 : Int), (12 : Int), (12 : Int), (12 : Int), (12 : Int), (40 : Int)]) (r341.1)).bind fun x342 => (some (x342 : Int)).bind fun x343 => (some ([] : List ((Str × List (Str × List Int) × Str) ⊕ ((Str × List (Str × List Int) × Str × (Str × (Str ⊕ (List (Int ⊕ (Str ⊕ (List Int))))))) ⊕ (Str × List (Str × List Int) × Str × Int × Int))))).bind fun x345 => (some ([] : List (List Str))).bind fun x349 => grd (rg (min (max (1 : Int) ((a1.length : Int) - (1 : Int))) x343) = true) ((forS (rngL 0 (min (max (1 : Int) ((a1.length : Int) - (1 : Int))) x343).toNat) ((x349, x345) : (List (List Str)) × (List ((Str × List (Str × List Int) × Str) ⊕ ((Str × List (Str × List Int) × Str × (Str × (Str ⊕ (List (Int ⊕ (Str ⊕ (List Int))))))) ⊕ (Str × List (Str × List Int) × Str × Int × Int))))) fun x355 s354 => (M_l_stream a1 ((1 : Int) + x355)).bind fun r401 => (M_l_log_line r401 x337 x355).bind fun r403 => (some (r403.1 : ((Str × List (Str × List Int) × Str) ⊕ ((Str × List (Str × List Int) × Str × (Str × (Str ⊕ (List (Int ⊕ (Str ⊕ (List Int))))))) ⊕ (Str × List (Str × List Int) × Str × Int × Int))))).bind fun x404 => grd ((s354.2).length < sizeLine) ((M_l_rests x404 (s354.1)).bind fun r407 => grd ((r407.2).length < sizeLine) (some (((r407.2) ++ [r407.1]), ((s354.2) ++ [x404]))))).bind fun s356 => (compM (s356.2) () (fun x358 s360 => if true = true then (M_l_line_copy x358).bind fun r362 => some (some r362, ()) else some (none, ()))).bind fun r363 => (some (r363.1 : List ((Str × List (Str × List Int) × Str) ⊕ ((Str × List (Str × List Int) × Str × (Str × (Str ⊕ (List (Int ⊕ (Str ⊕ (List Int))))))) ⊕ (Str × List (Str × List Int) × Str × Int × Int))))).bind fun x364 => grd (dv (2 : Int) = true) ((some ((cutL x364 none (some ((x364.length : Int) / (2 : Int)))) : List ((Str × List (Str × List Int) × Str) ⊕ ((Str × List (Str × List Int) × Str × (Str × (Str ⊕ (List (Int ⊕ (Str ⊕ (List Int))))))) ⊕ (Str × List (Str × List Int) × Str × Int × Int))))).bind fun x368 => grd (rg ((s356.2).length : Int) = true) ((forL (rngL 0 ((s356.2).length : Int).toNat) (() : Unit) fun x372 s371 => (atI (s356.1) x372).bind fun x392 => (M_l_keys_hold x364 (x372 + (1 : Int)) x392).bind fun r393 => if (!r393) = true then inB (some (Tm.rt false)) else ((if (decide (x372 < (x368.length : Int))) = true then (atI (s356.1) x372).bind fun x397 => (M_l_keys_hold x368 (x372 + (1 : Int)) x397).bind fun r398 => some ((!r398), ()) else some (false, ()))).bind fun c399 => if c399.1 = true then inB (some (Tm.rt false)) else some (Bo.nx ())).bind (boK (fun s373 => (forL ([(0 : Int), (-(1 : Int)), (((s356.2).length : Int) + (1 : Int)), ((10 : Int) ^ (30 : Int).toNat)]) (() : Unit) fun x376 s375 => (M_l_unknown x364 x376).bind fun r387 => ((if (!r387) = true then some (true, ()) else (M_l_unknown ([]) x376).bind fun r389 => some ((!r389), ()))).bind fun c390 => if c390.1 = true then inB (some (Tm.rt false)) else some (Bo.nx ())).bind (boK (fun s377 => (M_l_unknown x368 ((x368.length : Int) + (1 : Int))).bind fun r378 => ((if (!r378) = true then some (true, ()) else grd (lokG (deSm (deT3 (deG dgStr injStr (of_decide_eq_true rfl)) (deM (κ := Str) (deG (dgL dgInt) (injL injInt) (of_decide_eq_true rfl))) (deG dgStr injStr (of_decide_eq_true rfl))) (deSm (deT4 (deG dgStr injStr (of_decide_eq_true rfl)) (deM (κ := Str) (deG (dgL dgInt) (injL injInt) (of_decide_eq_true rfl))) (deG dgStr injStr (of_decide_eq_true rfl)) (deT2 (deG dgStr injStr (of_decide_eq_true rfl)) (deSm (deG dgStr injStr (of_decide_eq_true rfl)) (deL (deSm (deG dgInt injInt (of_decide_eq_true rfl)) (deSm (deG dgStr injStr (of_decide_eq_true rfl)) (deG (dgL dgInt) (injL injInt) (of_decide_eq_true rfl)))))))) (deT5 (deG dgStr injStr (of_decide_eq_true rfl)) (deM (κ := Str) (deG (dgL dgInt) (injL injInt) (of_decide_eq_true rfl))) (deG dgStr injStr (of_decide_eq_true rfl)) (deG dgInt injInt (of_decide_eq_true rfl)) (deG dgInt injInt (of_decide_eq_true rfl))))).ok x364 (s356.2) = true) (some ((!leqG (deSm (deT3 (deG dgStr injStr (of_decide_eq_true rfl)) (deM (κ := Str) (deG (dgL dgInt) (injL injInt) (of_decide_eq_true rfl))) (deG dgStr injStr (of_decide_eq_true rfl))) (deSm (deT4 (deG dgStr injStr (of_decide_eq_true rfl)) (deM (κ := Str) (deG (dgL dgInt) (injL injInt) (of_decide_eq_true rfl))) (deG dgStr injStr (of_decide_eq_true rfl)) (deT2 (deG dgStr injStr (of_decide_eq_true rfl)) (deSm (deG dgStr injStr (of_decide_eq_true rfl)) (deL (deSm (deG dgInt injInt (of_decide_eq_true rfl)) (deSm (deG dgStr injStr (of_decide_eq_true rfl)) (deG (dgL dgInt) (injL injInt) (of_decide_eq_true rfl)))))))) (deT5 (deG dgStr injStr (of_decide_eq_true rfl)) (deM (κ := Str) (deG (dgL dgInt) (injL injInt) (of_decide_eq_true rfl))) (deG dgStr injStr (of_decide_eq_true rfl)) (deG dgInt injInt (of_decide_eq_true rfl)) (deG dgInt injInt (of_decide_eq_true rfl))))).eqv x364 (s356.2)), ())))).bind fun c379 => if c379.1 = true then some false else (M_l_next (r341.2) (16 : Int)).bind fun r381 => ((if (decide ((r381.1) < (15 : Int))) = true then some (true, r381.2) else (M_l_next (r381.2) (1500 : Int)).bind fun r384 => (M_l_long_holds ((1 : Int) + (r384.1))).bind fun r385 => some (r385, r384.2))).bind fun c386 => some (c386.1)) id)) id))))) (s_let (i := 3) pInt sc_law.nd (x_kd (E := fun (b_ : (((Unit × (Unit × (Unit × (Unit × (Unit × (Unit × Unit)))))) × ((Unit × Unit) × (Int × (List Int)))) × Int)) => pInt b_.2) (x_ixL (Ee := pInt) (x_kd (E := fun (b_ : (Unit × (Unit × (Unit × (Unit × (Unit × (Unit × Unit))))))) => (pL pInt) ([(12 : Int), (12 : Int), (12 : Int), (12 : Int), (12 : Int), (40 : Int)])) (x_frz (o_kd (E := fun (b_ : (Unit × (Unit × (Unit × (Unit × (Unit × (Unit × Unit))))))) => (oL pInt) ([(12 : Int), (12 : Int), (12 : Int), (12 : Int), (12 : Int), (40 : Int)])) (x_disp pInt (fun _ => [_, _, _, _, _, _]) (a_cons (x_int (i := 12)) (fun _ => a_cons (x_int (i := 12)) (fun _ => a_cons (x_int (i := 12)) (fun _ => a_cons (x_int (i := 12)) (fun _ => a_cons (x_int (i := 12)) (fun _ => a_cons (x_int (i := 40)) (fun _ => a_nil))))))) (fun _ => rfl) (fun _ => by simp))))) (fun _ => x_kd (E := fun (b_ : ((Unit × Unit) × (Int × (List Int)))) => pInt b_.2.1) (x_OF_f (kk := 1) (E1 := (oL pInt)) (E2 := pInt) (s1 := fun (_ : Unit) (_ : Unit) => b338.2.2) (v1 := v328) k_l_next (hr.mono (by decide)) g_l_next F_l_next.kp b_l_next 0 (x_var (p := pV v328) 1) (fun _ => x_int (i := 6)) (fun _ _ => rfl))) (fun _ _ => rdF))) fun (b344 : (((Unit × (Unit × (Unit × (Unit × (Unit × (Unit × Unit)))))) × ((Unit × Unit) × (Int × (List Int)))) × Int)) x343 => s_T (T := (some ([] : List ((Str × List (Str × List Int) × Str) ⊕ ((Str × List (Str × List Int) × Str × (Str × (Str ⊕ (List (Int ⊕ (Str ⊕ (List Int))))))) ⊕ (Str × List (Str × List Int) × Str × Int × Int))))).bind fun x345 => (some ([] : List (List Str))).bind fun x349 => grd (rg (min (max (1 : Int) ((a1.length : Int) - (1 : Int))) x343) = true) ((forS (rngL 0 (min (max (1 : Int) ((a1.length : Int) - (1 : Int))) x343).toNat) ((x349, x345) : (List (List Str)) × (List ((Str × List (Str × List Int) × Str) ⊕ ((Str × List (Str × List Int) × Str × (Str × (Str ⊕ (List (Int ⊕ (Str ⊕ (List Int))))))) ⊕ (Str × List (Str × List Int) × Str × Int × Int))))) fun x355 s354 => (M_l_stream a1 ((1 : Int) + x355)).bind fun r401 => (M_l_log_line r401 x337 x355).bind fun r403 => (some (r403.1 : ((Str × List (Str × List Int) × Str) ⊕ ((Str × List (Str × List Int) × Str × (Str × (Str ⊕ (List (Int ⊕ (Str ⊕ (List Int))))))) ⊕ (Str × List (Str × List Int) × Str × Int × Int))))).bind fun x404 => grd ((s354.2).length < sizeLine) ((M_l_rests x404 (s354.1)).bind fun r407 => grd ((r407.2).length < sizeLine) (some (((r407.2) ++ [r407.1]), ((s354.2) ++ [x404]))))).bind fun s356 => (compM (s356.2) () (fun x358 s360 => if true = true then (M_l_line_copy x358).bind fun r362 => some (some r362, ()) else some (none, ()))).bind fun r363 => (some (r363.1 : List ((Str × List (Str × List Int) × Str) ⊕ ((Str × List (Str × List Int) × Str × (Str × (Str ⊕ (List (Int ⊕ (Str ⊕ (List Int))))))) ⊕ (Str × List (Str × List Int) × Str × Int × Int))))).bind fun x364 => grd (dv (2 : Int) = true) ((some ((cutL x364 none (some ((x364.length : Int) / (2 : Int)))) : List ((Str × List (Str × List Int) × Str) ⊕ ((Str × List (Str × List Int) × Str × (Str × (Str ⊕ (List (Int ⊕ (Str ⊕ (List Int))))))) ⊕ (Str × List (Str × List Int) × Str × Int × Int))))).bind fun x368 => grd (rg ((s356.2).length : Int) = true) ((forL (rngL 0 ((s356.2).length : Int).toNat) (() : Unit) fun x372 s371 => (atI (s356.1) x372).bind fun x392 => (M_l_keys_hold x364 (x372 + (1 : Int)) x392).bind fun r393 => if (!r393) = true then inB (some (Tm.rt false)) else ((if (decide (x372 < (x368.length : Int))) = true then (atI (s356.1) x372).bind fun x397 => (M_l_keys_hold x368 (x372 + (1 : Int)) x397).bind fun r398 => some ((!r398), ()) else some (false, ()))).bind fun c399 => if c399.1 = true then inB (some (Tm.rt false)) else some (Bo.nx ())).bind (boK (fun s373 => (forL ([(0 : Int), (-(1 : Int)), (((s356.2).length : Int) + (1 : Int)), ((10 : Int) ^ (30 : Int).toNat)]) (() : Unit) fun x376 s375 => (M_l_unknown x364 x376).bind fun r387 => ((if (!r387) = true then some (true, ()) else (M_l_unknown ([]) x376).bind fun r389 => some ((!r389), ()))).bind fun c390 => if c390.1 = true then inB (some (Tm.rt false)) else some (Bo.nx ())).bind (boK (fun s377 => (M_l_unknown x368 ((x368.length : Int) + (1 : Int))).bind fun r378 => ((if (!r378) = true then some (true, ()) else grd (lokG (deSm (deT3 (deG dgStr injStr (of_decide_eq_true rfl)) (deM (κ := Str) (deG (dgL dgInt) (injL injInt) (of_decide_eq_true rfl))) (deG dgStr injStr (of_decide_eq_true rfl))) (deSm (deT4 (deG dgStr injStr (of_decide_eq_true rfl)) (deM (κ := Str) (deG (dgL dgInt) (injL injInt) (of_decide_eq_true rfl))) (deG dgStr injStr (of_decide_eq_true rfl)) (deT2 (deG dgStr injStr (of_decide_eq_true rfl)) (deSm (deG dgStr injStr (of_decide_eq_true rfl)) (deL (deSm (deG dgInt injInt (of_decide_eq_true rfl)) (deSm (deG dgStr injStr (of_decide_eq_true rfl)) (deG (dgL dgInt) (injL injInt) (of_decide_eq_true rfl)))))))) (deT5 (deG dgStr injStr (of_decide_eq_true rfl)) (deM (κ := Str) (deG (dgL dgInt) (injL injInt) (of_decide_eq_true rfl))) (deG dgStr injStr (of_decide_eq_true rfl)) (deG dgInt injInt (of_decide_eq_true rfl)) (deG dgInt injInt (of_decide_eq_true rfl))))).ok x364 (s356.2) = true) (some ((!leqG (deSm (deT3 (deG dgStr injStr (of_decide_eq_true rfl)) (deM (κ := Str) (deG (dgL dgInt) (injL injInt) (of_decide_eq_true rfl))) (deG dgStr injStr (of_decide_eq_true rfl))) (deSm (deT4 (deG dgStr injStr (of_decide_eq_true rfl)) (deM (κ := Str) (deG (dgL dgInt) (injL injInt) (of_decide_eq_true rfl))) (deG dgStr injStr (of_decide_eq_true rfl)) (deT2 (deG dgStr injStr (of_decide_eq_true rfl)) (deSm (deG dgStr injStr (of_decide_eq_true rfl)) (deL (deSm (deG dgInt injInt (of_decide_eq_true rfl)) (deSm (deG dgStr injStr (of_decide_eq_true rfl)) (deG (dgL dgInt) (injL injInt) (of_decide_eq_true rfl)))))))) (deT5 (deG dgStr injStr (of_decide_eq_true rfl)) (deM (κ := Str) (deG (dgL dgInt) (injL injInt) (of_decide_eq_true rfl))) (deG dgStr injStr (of_decide_eq_true rfl)) (deG dgInt injInt (of_decide_eq_true rfl)) (deG dgInt injInt (of_decide_eq_true rfl))))).eqv x364 (s356.2)), ())))).bind fun c379 => if c379.1 = true then some false else (M_l_next (b344.1.2.2.2) (16 : Int)).bind fun r381 => ((if (decide ((r381.1) < (15 : Int))) = true then some (true, r381.2) else (M_l_next (r381.2) (1500 : Int)).bind fun r384 => (M_l_long_holds ((1 : Int) + (r384.1))).bind fun r385 => some (r385, r384.2))).bind fun c386 => some (c386.1)) id)) id))))) (s_letO (i := 4) (oL (pSm (pT3 pStr (pM (κ := Str) (pL pInt)) pStr) (pSm (pT4 pStr (pM (κ := Str) (pL pInt)) pStr (pT2 pStr (pSm pStr (pL (pSm pInt (pSm pStr (pL pInt))))))) (pT5 pStr (pM (κ := Str) (pL pInt)) pStr pInt pInt)))) sc_law.nd (o_kd (E := fun (b_ : Unit) => (oL (pSm (pT3 pStr (pM (κ := Str) (pL pInt)) pStr) (pSm (pT4 pStr (pM (κ := Str) (pL pInt)) pStr (pT2 pStr (pSm pStr (pL (pSm pInt (pSm pStr (pL pInt))))))) (pT5 pStr (pM (κ := Str) (pL pInt)) pStr pInt pInt)))) ([])) (x_nil (pSm (pT3 pStr (pM (κ := Str) (pL pInt)) pStr) (pSm (pT4 pStr (pM (κ := Str) (pL pInt)) pStr (pT2 pStr (pSm pStr (pL (pSm pInt (pSm pStr (pL pInt))))))) (pT5 pStr (pM (κ := Str) (pL pInt)) pStr pInt pInt))))) fun (b346 : Unit) x345 v348 => s_T (T := (some ([] : List (List Str))).bind fun x349 => grd (rg (min (max (1 : Int) ((a1.length : Int) - (1 : Int))) x343) = true) ((forS (rngL 0 (min (max (1 : Int) ((a1.length : Int) - (1 : Int))) x343).toNat) ((x349, x345) : (List (List Str)) × (List ((Str × List (Str × List Int) × Str) ⊕ ((Str × List (Str × List Int) × Str × (Str × (Str ⊕ (List (Int ⊕ (Str ⊕ (List Int))))))) ⊕ (Str × List (Str × List Int) × Str × Int × Int))))) fun x355 s354 => (M_l_stream a1 ((1 : Int) + x355)).bind fun r401 => (M_l_log_line r401 x337 x355).bind fun r403 => (some (r403.1 : ((Str × List (Str × List Int) × Str) ⊕ ((Str × List (Str × List Int) × Str × (Str × (Str ⊕ (List (Int ⊕ (Str ⊕ (List Int))))))) ⊕ (Str × List (Str × List Int) × Str × Int × Int))))).bind fun x404 => grd ((s354.2).length < sizeLine) ((M_l_rests x404 (s354.1)).bind fun r407 => grd ((r407.2).length < sizeLine) (some (((r407.2) ++ [r407.1]), ((s354.2) ++ [x404]))))).bind fun s356 => (compM (s356.2) () (fun x358 s360 => if true = true then (M_l_line_copy x358).bind fun r362 => some (some r362, ()) else some (none, ()))).bind fun r363 => (some (r363.1 : List ((Str × List (Str × List Int) × Str) ⊕ ((Str × List (Str × List Int) × Str × (Str × (Str ⊕ (List (Int ⊕ (Str ⊕ (List Int))))))) ⊕ (Str × List (Str × List Int) × Str × Int × Int))))).bind fun x364 => grd (dv (2 : Int) = true) ((some ((cutL x364 none (some ((x364.length : Int) / (2 : Int)))) : List ((Str × List (Str × List Int) × Str) ⊕ ((Str × List (Str × List Int) × Str × (Str × (Str ⊕ (List (Int ⊕ (Str ⊕ (List Int))))))) ⊕ (Str × List (Str × List Int) × Str × Int × Int))))).bind fun x368 => grd (rg ((s356.2).length : Int) = true) ((forL (rngL 0 ((s356.2).length : Int).toNat) (() : Unit) fun x372 s371 => (atI (s356.1) x372).bind fun x392 => (M_l_keys_hold x364 (x372 + (1 : Int)) x392).bind fun r393 => if (!r393) = true then inB (some (Tm.rt false)) else ((if (decide (x372 < (x368.length : Int))) = true then (atI (s356.1) x372).bind fun x397 => (M_l_keys_hold x368 (x372 + (1 : Int)) x397).bind fun r398 => some ((!r398), ()) else some (false, ()))).bind fun c399 => if c399.1 = true then inB (some (Tm.rt false)) else some (Bo.nx ())).bind (boK (fun s373 => (forL ([(0 : Int), (-(1 : Int)), (((s356.2).length : Int) + (1 : Int)), ((10 : Int) ^ (30 : Int).toNat)]) (() : Unit) fun x376 s375 => (M_l_unknown x364 x376).bind fun r387 => ((if (!r387) = true then some (true, ()) else (M_l_unknown ([]) x376).bind fun r389 => some ((!r389), ()))).bind fun c390 => if c390.1 = true then inB (some (Tm.rt false)) else some (Bo.nx ())).bind (boK (fun s377 => (M_l_unknown x368 ((x368.length : Int) + (1 : Int))).bind fun r378 => ((if (!r378) = true then some (true, ()) else grd (lokG (deSm (deT3 (deG dgStr injStr (of_decide_eq_true rfl)) (deM (κ := Str) (deG (dgL dgInt) (injL injInt) (of_decide_eq_true rfl))) (deG dgStr injStr (of_decide_eq_true rfl))) (deSm (deT4 (deG dgStr injStr (of_decide_eq_true rfl)) (deM (κ := Str) (deG (dgL dgInt) (injL injInt) (of_decide_eq_true rfl))) (deG dgStr injStr (of_decide_eq_true rfl)) (deT2 (deG dgStr injStr (of_decide_eq_true rfl)) (deSm (deG dgStr injStr (of_decide_eq_true rfl)) (deL (deSm (deG dgInt injInt (of_decide_eq_true rfl)) (deSm (deG dgStr injStr (of_decide_eq_true rfl)) (deG (dgL dgInt) (injL injInt) (of_decide_eq_true rfl)))))))) (deT5 (deG dgStr injStr (of_decide_eq_true rfl)) (deM (κ := Str) (deG (dgL dgInt) (injL injInt) (of_decide_eq_true rfl))) (deG dgStr injStr (of_decide_eq_true rfl)) (deG dgInt injInt (of_decide_eq_true rfl)) (deG dgInt injInt (of_decide_eq_true rfl))))).ok x364 (s356.2) = true) (some ((!leqG (deSm (deT3 (deG dgStr injStr (of_decide_eq_true rfl)) (deM (κ := Str) (deG (dgL dgInt) (injL injInt) (of_decide_eq_true rfl))) (deG dgStr injStr (of_decide_eq_true rfl))) (deSm (deT4 (deG dgStr injStr (of_decide_eq_true rfl)) (deM (κ := Str) (deG (dgL dgInt) (injL injInt) (of_decide_eq_true rfl))) (deG dgStr injStr (of_decide_eq_true rfl)) (deT2 (deG dgStr injStr (of_decide_eq_true rfl)) (deSm (deG dgStr injStr (of_decide_eq_true rfl)) (deL (deSm (deG dgInt injInt (of_decide_eq_true rfl)) (deSm (deG dgStr injStr (of_decide_eq_true rfl)) (deG (dgL dgInt) (injL injInt) (of_decide_eq_true rfl)))))))) (deT5 (deG dgStr injStr (of_decide_eq_true rfl)) (deM (κ := Str) (deG (dgL dgInt) (injL injInt) (of_decide_eq_true rfl))) (deG dgStr injStr (of_decide_eq_true rfl)) (deG dgInt injInt (of_decide_eq_true rfl)) (deG dgInt injInt (of_decide_eq_true rfl))))).eqv x364 (s356.2)), ())))).bind fun c379 => if c379.1 = true then some false else (M_l_next (b344.1.2.2.2) (16 : Int)).bind fun r381 => ((if (decide ((r381.1) < (15 : Int))) = true then some (true, r381.2) else (M_l_next (r381.2) (1500 : Int)).bind fun r384 => (M_l_long_holds ((1 : Int) + (r384.1))).bind fun r385 => some (r385, r384.2))).bind fun c386 => some (c386.1)) id)) id))))) (s_letO (i := 5) (oL (pL pStr)) sc_law.nd (o_kd (E := fun (b_ : Unit) => (oL (pL pStr)) ([])) (x_nil (pL pStr))) fun (b350 : Unit) x349 v352 => s_T (T := grd (rg (min (max (1 : Int) ((a1.length : Int) - (1 : Int))) x343) = true) ((forS (rngL 0 (min (max (1 : Int) ((a1.length : Int) - (1 : Int))) x343).toNat) ((x349, x345) : (List (List Str)) × (List ((Str × List (Str × List Int) × Str) ⊕ ((Str × List (Str × List Int) × Str × (Str × (Str ⊕ (List (Int ⊕ (Str ⊕ (List Int))))))) ⊕ (Str × List (Str × List Int) × Str × Int × Int))))) fun x355 s354 => (M_l_stream a1 ((1 : Int) + x355)).bind fun r401 => (M_l_log_line r401 x337 x355).bind fun r403 => (some (r403.1 : ((Str × List (Str × List Int) × Str) ⊕ ((Str × List (Str × List Int) × Str × (Str × (Str ⊕ (List (Int ⊕ (Str ⊕ (List Int))))))) ⊕ (Str × List (Str × List Int) × Str × Int × Int))))).bind fun x404 => grd ((s354.2).length < sizeLine) ((M_l_rests x404 (s354.1)).bind fun r407 => grd ((r407.2).length < sizeLine) (some (((r407.2) ++ [r407.1]), ((s354.2) ++ [x404]))))).bind fun s356 => (compM (s356.2) () (fun x358 s360 => if true = true then (M_l_line_copy x358).bind fun r362 => some (some r362, ()) else some (none, ()))).bind fun r363 => (some (r363.1 : List ((Str × List (Str × List Int) × Str) ⊕ ((Str × List (Str × List Int) × Str × (Str × (Str ⊕ (List (Int ⊕ (Str ⊕ (List Int))))))) ⊕ (Str × List (Str × List Int) × Str × Int × Int))))).bind fun x364 => grd (dv (2 : Int) = true) ((some ((cutL x364 none (some ((x364.length : Int) / (2 : Int)))) : List ((Str × List (Str × List Int) × Str) ⊕ ((Str × List (Str × List Int) × Str × (Str × (Str ⊕ (List (Int ⊕ (Str ⊕ (List Int))))))) ⊕ (Str × List (Str × List Int) × Str × Int × Int))))).bind fun x368 => grd (rg ((s356.2).length : Int) = true) ((forL (rngL 0 ((s356.2).length : Int).toNat) (() : Unit) fun x372 s371 => (atI (s356.1) x372).bind fun x392 => (M_l_keys_hold x364 (x372 + (1 : Int)) x392).bind fun r393 => if (!r393) = true then inB (some (Tm.rt false)) else ((if (decide (x372 < (x368.length : Int))) = true then (atI (s356.1) x372).bind fun x397 => (M_l_keys_hold x368 (x372 + (1 : Int)) x397).bind fun r398 => some ((!r398), ()) else some (false, ()))).bind fun c399 => if c399.1 = true then inB (some (Tm.rt false)) else some (Bo.nx ())).bind (boK (fun s373 => (forL ([(0 : Int), (-(1 : Int)), (((s356.2).length : Int) + (1 : Int)), ((10 : Int) ^ (30 : Int).toNat)]) (() : Unit) fun x376 s375 => (M_l_unknown x364 x376).bind fun r387 => ((if (!r387) = true then some (true, ()) else (M_l_unknown ([]) x376).bind fun r389 => some ((!r389), ()))).bind fun c390 => if c390.1 = true then inB (some (Tm.rt false)) else some (Bo.nx ())).bind (boK (fun s377 => (M_l_unknown x368 ((x368.length : Int) + (1 : Int))).bind fun r378 => ((if (!r378) = true then some (true, ()) else grd (lokG (deSm (deT3 (deG dgStr injStr (of_decide_eq_true rfl)) (deM (κ := Str) (deG (dgL dgInt) (injL injInt) (of_decide_eq_true rfl))) (deG dgStr injStr (of_decide_eq_true rfl))) (deSm (deT4 (deG dgStr injStr (of_decide_eq_true rfl)) (deM (κ := Str) (deG (dgL dgInt) (injL injInt) (of_decide_eq_true rfl))) (deG dgStr injStr (of_decide_eq_true rfl)) (deT2 (deG dgStr injStr (of_decide_eq_true rfl)) (deSm (deG dgStr injStr (of_decide_eq_true rfl)) (deL (deSm (deG dgInt injInt (of_decide_eq_true rfl)) (deSm (deG dgStr injStr (of_decide_eq_true rfl)) (deG (dgL dgInt) (injL injInt) (of_decide_eq_true rfl)))))))) (deT5 (deG dgStr injStr (of_decide_eq_true rfl)) (deM (κ := Str) (deG (dgL dgInt) (injL injInt) (of_decide_eq_true rfl))) (deG dgStr injStr (of_decide_eq_true rfl)) (deG dgInt injInt (of_decide_eq_true rfl)) (deG dgInt injInt (of_decide_eq_true rfl))))).ok x364 (s356.2) = true) (some ((!leqG (deSm (deT3 (deG dgStr injStr (of_decide_eq_true rfl)) (deM (κ := Str) (deG (dgL dgInt) (injL injInt) (of_decide_eq_true rfl))) (deG dgStr injStr (of_decide_eq_true rfl))) (deSm (deT4 (deG dgStr injStr (of_decide_eq_true rfl)) (deM (κ := Str) (deG (dgL dgInt) (injL injInt) (of_decide_eq_true rfl))) (deG dgStr injStr (of_decide_eq_true rfl)) (deT2 (deG dgStr injStr (of_decide_eq_true rfl)) (deSm (deG dgStr injStr (of_decide_eq_true rfl)) (deL (deSm (deG dgInt injInt (of_decide_eq_true rfl)) (deSm (deG dgStr injStr (of_decide_eq_true rfl)) (deG (dgL dgInt) (injL injInt) (of_decide_eq_true rfl)))))))) (deT5 (deG dgStr injStr (of_decide_eq_true rfl)) (deM (κ := Str) (deG (dgL dgInt) (injL injInt) (of_decide_eq_true rfl))) (deG dgStr injStr (of_decide_eq_true rfl)) (deG dgInt injInt (of_decide_eq_true rfl)) (deG dgInt injInt (of_decide_eq_true rfl))))).eqv x364 (s356.2)), ())))).bind fun c379 => if c379.1 = true then some false else (M_l_next (b344.1.2.2.2) (16 : Int)).bind fun r381 => ((if (decide ((r381.1) < (15 : Int))) = true then some (true, r381.2) else (M_l_next (r381.2) (1500 : Int)).bind fun r384 => (M_l_long_holds ((1 : Int) + (r384.1))).bind fun r385 => some (r385, r384.2))).bind fun c386 => some (c386.1)) id)) id))))) (s_forS PassesOwn.never (fun (b_ : ((Unit × (Unit × Unit)) × Unit)) (s_ : (List (List Str)) × (List ((Str × List (Str × List Int) × Str) ⊕ ((Str × List (Str × List Int) × Str × (Str × (Str ⊕ (List (Int ⊕ (Str ⊕ (List Int))))))) ⊕ (Str × List (Str × List Int) × Str × Int × Int))))) => ([some ((pS K) a1), some (pV v328), some ((pL pStr) x337), some (pInt x343), some (pV v348), some (pV v352), none, none, none, none, none], [⟨v352, (oL (pL pStr)) s_.1, none⟩, ⟨v348, (oL (pSm (pT3 pStr (pM (κ := Str) (pL pInt)) pStr) (pSm (pT4 pStr (pM (κ := Str) (pL pInt)) pStr (pT2 pStr (pSm pStr (pL (pSm pInt (pSm pStr (pL pInt))))))) (pT5 pStr (pM (κ := Str) (pL pInt)) pStr pInt pInt)))) s_.2, none⟩, ⟨v328, (oL pInt) b344.1.2.2.2, none⟩])) (fun (b_ : ((Unit × (Unit × Unit)) × Unit)) => (x349, x345)) (i_rng1 m_range (x_kd (E := fun (b_ : ((Unit × (Unit × Unit)) × Unit)) => pInt (min (max (1 : Int) ((a1.length : Int) - (1 : Int))) x343)) (x_min2 m_min (x_kd (E := fun (b_ : (Unit × (Unit × Unit))) => pInt (max (1 : Int) ((a1.length : Int) - (1 : Int)))) (x_max2 m_max (x_int (i := 1)) (fun _ => x_kd (E := fun (b_ : (Unit × Unit)) => pInt ((a1.length : Int) - (1 : Int))) (x_sub (x_kd (E := fun (b_ : Unit) => pInt (a1.length : Int)) (x_lenS m_len (x_var (p := (pS K) a1) 0))) (fun _ => x_int (i := 1)))))) (fun _ => x_var (p := pInt x343) 3)))) (pg_name (i := 6) sc_law.nd rfl (by first | exact .inl rfl | exact .inr rfl)) (tg_name 6) (fun _ => (by exact ⟨rfl, rfl, rfl, rfl, rfl, rfl, trivial⟩)) (fun _ => List.Sublist.refl _) (fun b353 x355 s354 => s_T (T := (M_l_stream a1 ((1 : Int) + x355)).bind fun r401 => (M_l_log_line r401 x337 x355).bind fun r403 => (some (r403.1 : ((Str × List (Str × List Int) × Str) ⊕ ((Str × List (Str × List Int) × Str × (Str × (Str ⊕ (List (Int ⊕ (Str ⊕ (List Int))))))) ⊕ (Str × List (Str × List Int) × Str × Int × Int))))).bind fun x404 => grd ((s354.2).length < sizeLine) ((M_l_rests x404 (s354.1)).bind fun r407 => grd ((r407.2).length < sizeLine) (some (((r407.2) ++ [r407.1]), ((s354.2) ++ [x404]))))) (s_let (i := 10) (pSm (pT3 pStr (pM (κ := Str) (pL pInt)) pStr) (pSm (pT4 pStr (pM (κ := Str) (pL pInt)) pStr (pT2 pStr (pSm pStr (pL (pSm pInt (pSm pStr (pL pInt))))))) (pT5 pStr (pM (κ := Str) (pL pInt)) pStr pInt pInt))) sc_law.nd (x_kd (E := fun (b_ : ((((Unit × (Unit × Unit)) × (List Int)) × (Unit × Unit)) × (((Str × List (Str × List Int) × Str) ⊕ ((Str × List (Str × List Int) × Str × (Str × (Str ⊕ (List (Int ⊕ (Str ⊕ (List Int))))))) ⊕ (Str × List (Str × List Int) × Str × Int × Int))) × (List Int)))) => (pSm (pT3 pStr (pM (κ := Str) (pL pInt)) pStr) (pSm (pT4 pStr (pM (κ := Str) (pL pInt)) pStr (pT2 pStr (pSm pStr (pL (pSm pInt (pSm pStr (pL pInt))))))) (pT5 pStr (pM (κ := Str) (pL pInt)) pStr pInt pInt))) b_.2.1) (x_TFF_f (kk := 4) (E1 := (oL pInt)) (E2 := (pL pStr)) (E3 := pInt) k_l_log_line (hr.mono (by decide)) g_l_log_line F_l_log_line.kp b_l_log_line (o_kd (E := fun (b_ : ((Unit × (Unit × Unit)) × (List Int))) => (oL pInt) b_.2) (x_FF_o (kk := 1) (E1 := (pS K)) (E2 := pInt) k_l_stream (hr.mono (by decide)) g_l_stream F_l_stream.kp b_l_stream (x_var (p := (pS K) a1) 0) (fun _ => x_kd (E := fun (b_ : (Unit × Unit)) => pInt ((1 : Int) + x355)) (x_add (x_int (i := 1)) (fun _ => x_var (p := pInt x355) 6))))) (fun _ vt_  => x_var (p := (pL pStr) x337) 2) (fun _ vt_ _ => x_var (p := pInt x355) 6))) fun (b405 : ((((Unit × (Unit × Unit)) × (List Int)) × (Unit × Unit)) × (((Str × List (Str × List Int) × Str) ⊕ ((Str × List (Str × List Int) × Str × (Str × (Str ⊕ (List (Int ⊕ (Str ⊕ (List Int))))))) ⊕ (Str × List (Str × List Int) × Str × Int × Int))) × (List Int)))) x404 => s_T (T := grd ((s354.2).length < sizeLine) ((M_l_rests x404 (s354.1)).bind fun r407 => grd ((r407.2).length < sizeLine) (some (((r407.2) ++ [r407.1]), ((s354.2) ++ [x404]))))) (s_expr (x_app 1 (x_var (p := pV v348) 4) (fun _ => x_var (p := (pSm (pT3 pStr (pM (κ := Str) (pL pInt)) pStr) (pSm (pT4 pStr (pM (κ := Str) (pL pInt)) pStr (pT2 pStr (pSm pStr (pL (pSm pInt (pSm pStr (pL pInt))))))) (pT5 pStr (pM (κ := Str) (pL pInt)) pStr pInt pInt))) x404) 10) (fun _ => rfl) (fun _ _ => rfl)) fun (b406 : (Unit × Unit)) => s_T (T := (M_l_rests x404 (s354.1)).bind fun r407 => grd ((r407.2).length < sizeLine) (some (((r407.2) ++ [r407.1]), ((s354.2) ++ [x404])))) (s_expr (x_app 0 (x_var (p := pV v352) 5) (fun _ => x_kd (E := fun (b_ : ((Unit × Unit) × ((List Str) × (List (List Str))))) => (pL pStr) b_.2.1) (x_FO_f (kk := 2) (E1 := (pSm (pT3 pStr (pM (κ := Str) (pL pInt)) pStr) (pSm (pT4 pStr (pM (κ := Str) (pL pInt)) pStr (pT2 pStr (pSm pStr (pL (pSm pInt (pSm pStr (pL pInt))))))) (pT5 pStr (pM (κ := Str) (pL pInt)) pStr pInt pInt)))) (E2 := (oL (pL pStr))) (s2 := fun (_ : Unit) (_ : Unit) => s354.1) (v2 := v352) k_l_rests (hr.mono (by decide)) g_l_rests F_l_rests.kp b_l_rests 0 (x_var (p := (pSm (pT3 pStr (pM (κ := Str) (pL pInt)) pStr) (pSm (pT4 pStr (pM (κ := Str) (pL pInt)) pStr (pT2 pStr (pSm pStr (pL (pSm pInt (pSm pStr (pL pInt))))))) (pT5 pStr (pM (κ := Str) (pL pInt)) pStr pInt pInt))) x404) 10) (fun _ => x_var (p := pV v352) 5) (fun _ _ => rfl))) (fun _ => rfl) (fun _ _ => rfl)) fun (b408 : (Unit × ((Unit × Unit) × ((List Str) × (List (List Str)))))) => s_end (((b408.2.2.2) ++ [b408.2.2.1]), ((s354.2) ++ [x404])) rfl (by exact ⟨rfl, rfl, rfl, rfl, rfl, rfl, trivial⟩) (List.Sublist.refl _))))) fun b353 s356 => s_frz (i := 5) (c := ⟨v352, (oL (pL pStr)) s356.1, none⟩) 0 (s_frz (i := 4) (c := ⟨v348, (oL (pSm (pT3 pStr (pM (κ := Str) (pL pInt)) pStr) (pSm (pT4 pStr (pM (κ := Str) (pL pInt)) pStr (pT2 pStr (pSm pStr (pL (pSm pInt (pSm pStr (pL pInt))))))) (pT5 pStr (pM (κ := Str) (pL pInt)) pStr pInt pInt)))) s356.2, none⟩) 0 (s_T (T := (compM (s356.2) () (fun x358 s360 => if true = true then (M_l_line_copy x358).bind fun r362 => some (some r362, ()) else some (none, ()))).bind fun r363 => (some (r363.1 : List ((Str × List (Str × List Int) × Str) ⊕ ((Str × List (Str × List Int) × Str × (Str × (Str ⊕ (List (Int ⊕ (Str ⊕ (List Int))))))) ⊕ (Str × List (Str × List Int) × Str × Int × Int))))).bind fun x364 => grd (dv (2 : Int) = true) ((some ((cutL x364 none (some ((x364.length : Int) / (2 : Int)))) : List ((Str × List (Str × List Int) × Str) ⊕ ((Str × List (Str × List Int) × Str × (Str × (Str ⊕ (List (Int ⊕ (Str ⊕ (List Int))))))) ⊕ (Str × List (Str × List Int) × Str × Int × Int))))).bind fun x368 => grd (rg ((s356.2).length : Int) = true) ((forL (rngL 0 ((s356.2).length : Int).toNat) (() : Unit) fun x372 s371 => (atI (s356.1) x372).bind fun x392 => (M_l_keys_hold x364 (x372 + (1 : Int)) x392).bind fun r393 => if (!r393) = true then inB (some (Tm.rt false)) else ((if (decide (x372 < (x368.length : Int))) = true then (atI (s356.1) x372).bind fun x397 => (M_l_keys_hold x368 (x372 + (1 : Int)) x397).bind fun r398 => some ((!r398), ()) else some (false, ()))).bind fun c399 => if c399.1 = true then inB (some (Tm.rt false)) else some (Bo.nx ())).bind (boK (fun s373 => (forL ([(0 : Int), (-(1 : Int)), (((s356.2).length : Int) + (1 : Int)), ((10 : Int) ^ (30 : Int).toNat)]) (() : Unit) fun x376 s375 => (M_l_unknown x364 x376).bind fun r387 => ((if (!r387) = true then some (true, ()) else (M_l_unknown ([]) x376).bind fun r389 => some ((!r389), ()))).bind fun c390 => if c390.1 = true then inB (some (Tm.rt false)) else some (Bo.nx ())).bind (boK (fun s377 => (M_l_unknown x368 ((x368.length : Int) + (1 : Int))).bind fun r378 => ((if (!r378) = true then some (true, ()) else grd (lokG (deSm (deT3 (deG dgStr injStr (of_decide_eq_true rfl)) (deM (κ := Str) (deG (dgL dgInt) (injL injInt) (of_decide_eq_true rfl))) (deG dgStr injStr (of_decide_eq_true rfl))) (deSm (deT4 (deG dgStr injStr (of_decide_eq_true rfl)) (deM (κ := Str) (deG (dgL dgInt) (injL injInt) (of_decide_eq_true rfl))) (deG dgStr injStr (of_decide_eq_true rfl)) (deT2 (deG dgStr injStr (of_decide_eq_true rfl)) (deSm (deG dgStr injStr (of_decide_eq_true rfl)) (deL (deSm (deG dgInt injInt (of_decide_eq_true rfl)) (deSm (deG dgStr injStr (of_decide_eq_true rfl)) (deG (dgL dgInt) (injL injInt) (of_decide_eq_true rfl)))))))) (deT5 (deG dgStr injStr (of_decide_eq_true rfl)) (deM (κ := Str) (deG (dgL dgInt) (injL injInt) (of_decide_eq_true rfl))) (deG dgStr injStr (of_decide_eq_true rfl)) (deG dgInt injInt (of_decide_eq_true rfl)) (deG dgInt injInt (of_decide_eq_true rfl))))).ok x364 (s356.2) = true) (some ((!leqG (deSm (deT3 (deG dgStr injStr (of_decide_eq_true rfl)) (deM (κ := Str) (deG (dgL dgInt) (injL injInt) (of_decide_eq_true rfl))) (deG dgStr injStr (of_decide_eq_true rfl))) (deSm (deT4 (deG dgStr injStr (of_decide_eq_true rfl)) (deM (κ := Str) (deG (dgL dgInt) (injL injInt) (of_decide_eq_true rfl))) (deG dgStr injStr (of_decide_eq_true rfl)) (deT2 (deG dgStr injStr (of_decide_eq_true rfl)) (deSm (deG dgStr injStr (of_decide_eq_true rfl)) (deL (deSm (deG dgInt injInt (of_decide_eq_true rfl)) (deSm (deG dgStr injStr (of_decide_eq_true rfl)) (deG (dgL dgInt) (injL injInt) (of_decide_eq_true rfl)))))))) (deT5 (deG dgStr injStr (of_decide_eq_true rfl)) (deM (κ := Str) (deG (dgL dgInt) (injL injInt) (of_decide_eq_true rfl))) (deG dgStr injStr (of_decide_eq_true rfl)) (deG dgInt injInt (of_decide_eq_true rfl)) (deG dgInt injInt (of_decide_eq_true rfl))))).eqv x364 (s356.2)), ())))).bind fun c379 => if c379.1 = true then some false else (M_l_next (b344.1.2.2.2) (16 : Int)).bind fun r381 => ((if (decide ((r381.1) < (15 : Int))) = true then some (true, r381.2) else (M_l_next (r381.2) (1500 : Int)).bind fun r384 => (M_l_long_holds ((1 : Int) + (r384.1))).bind fun r385 => some (r385, r384.2))).bind fun c386 => some (c386.1)) id)) id)))) (s_letOA (i := 7) (oL (pSm (pT3 pStr (pM (κ := Str) (pL pInt)) pStr) (pSm (pT4 pStr (pM (κ := Str) (pL pInt)) pStr (pT2 pStr (pSm pStr (pL (pSm pInt (pSm pStr (pL pInt))))))) (pT5 pStr (pM (κ := Str) (pL pInt)) pStr pInt pInt)))) (a_lc (i := 7) (own := [("_law_line", 10)]) (C := fun (b_ : Unit) (s_ : Unit) => [⟨v328, (oL pInt) b344.1.2.2.2, none⟩]) (s0 := fun (b_ : Unit) => ()) (s2 := fun (b_ : Unit) (x_ : ((Str × List (Str × List Int) × Str) ⊕ ((Str × List (Str × List Int) × Str × (Str × (Str ⊕ (List (Int ⊕ (Str ⊕ (List Int))))))) ⊕ (Str × List (Str × List Int) × Str × Int × Int)))) (s_ : Unit) (c_ : Unit) => ()) (s3 := fun (b_ : Unit) (x_ : ((Str × List (Str × List Int) × Str) ⊕ ((Str × List (Str × List Int) × Str × (Str × (Str ⊕ (List (Int ⊕ (Str ⊕ (List Int))))))) ⊕ (Str × List (Str × List Int) × Str × Int × Int)))) (s_ : Unit) (c_ : Unit) (d_ : (Unit × ((Str × List (Str × List Int) × Str) ⊕ ((Str × List (Str × List Int) × Str × (Str × (Str ⊕ (List (Int ⊕ (Str ⊕ (List Int))))))) ⊕ (Str × List (Str × List Int) × Str × Int × Int))))) => ()) (Ex := (pSm (pT3 pStr (pM (κ := Str) (pL pInt)) pStr) (pSm (pT4 pStr (pM (κ := Str) (pL pInt)) pStr (pT2 pStr (pSm pStr (pL (pSm pInt (pSm pStr (pL pInt))))))) (pT5 pStr (pM (κ := Str) (pL pInt)) pStr pInt pInt)))) (Ee := (pSm (pT3 pStr (pM (κ := Str) (pL pInt)) pStr) (pSm (pT4 pStr (pM (κ := Str) (pL pInt)) pStr (pT2 pStr (pSm pStr (pL (pSm pInt (pSm pStr (pL pInt))))))) (pT5 pStr (pM (κ := Str) (pL pInt)) pStr pInt pInt)))) (δ := ((Str × List (Str × List Int) × Str) ⊕ ((Str × List (Str × List Int) × Str × (Str × (Str ⊕ (List (Int ⊕ (Str ⊕ (List Int))))))) ⊕ (Str × List (Str × List Int) × Str × Int × Int)))) (y := fun (b_ : Unit) (x_ : ((Str × List (Str × List Int) × Str) ⊕ ((Str × List (Str × List Int) × Str × (Str × (Str ⊕ (List (Int ⊕ (Str ⊕ (List Int))))))) ⊕ (Str × List (Str × List Int) × Str × Int × Int)))) (s_ : Unit) (c_ : Unit) (d_ : (Unit × ((Str × List (Str × List Int) × Str) ⊕ ((Str × List (Str × List Int) × Str × (Str × (Str ⊕ (List (Int ⊕ (Str ⊕ (List Int))))))) ⊕ (Str × List (Str × List Int) × Str × Int × Int))))) => d_.2) (T2 := fun (b_ : Unit) (x_ : ((Str × List (Str × List Int) × Str) ⊕ ((Str × List (Str × List Int) × Str × (Str × (Str ⊕ (List (Int ⊕ (Str ⊕ (List Int))))))) ⊕ (Str × List (Str × List Int) × Str × Int × Int)))) (s_ : Unit) (c_ : Unit) => (M_l_line_copy x_).bind fun r362 => some (some r362, ())) (c := fun (b_ : Unit) (x_ : ((Str × List (Str × List Int) × Str) ⊕ ((Str × List (Str × List Int) × Str × (Str × (Str ⊕ (List (Int ⊕ (Str ⊕ (List Int))))))) ⊕ (Str × List (Str × List Int) × Str × Int × Int)))) (s_ : Unit) (c_ : Unit) => true) (f := fun (b_ : Unit) (x_ : ((Str × List (Str × List Int) × Str) ⊕ ((Str × List (Str × List Int) × Str × (Str × (Str ⊕ (List (Int ⊕ (Str ⊕ (List Int))))))) ⊕ (Str × List (Str × List Int) × Str × Int × Int)))) (s_ : Unit) => if true = true then (M_l_line_copy x_).bind fun r362 => some (some r362, ()) else some (none, ())) sc_law.nd (i_list (x_var (p := (pL (pSm (pT3 pStr (pM (κ := Str) (pL pInt)) pStr) (pSm (pT4 pStr (pM (κ := Str) (pL pInt)) pStr (pT2 pStr (pSm pStr (pL (pSm pInt (pSm pStr (pL pInt))))))) (pT5 pStr (pM (κ := Str) (pL pInt)) pStr pInt pInt)))) s356.2) 4)) (blkOk_by (own := [("_law_line", 10)]) (N := ["_law_script", "_law_stream_here", "_law_keys", "_law_most", "_law_lines", "_law_rests_here", "_law_k", "_law_handed", "_law_half", "_law_number_here", "_law_line"]) (sc := (defScope (top 27))) (by decide +kernel)) (fun _ _ _ _ _ => pg_name (i := 10) sc_law.nd rfl (by first | exact .inl rfl | exact .inr rfl)) (tw_name 10) (fun _ => rfl) (by exact fun q361 _ _ _ _ _ b357 x358 s360 => pts_T) (by exact fun q361 _ _ _ _ _ b357 x358 s360 _ => x_out (x_kd (E := fun (b_ : (Unit × ((Str × List (Str × List Int) × Str) ⊕ ((Str × List (Str × List Int) × Str × (Str × (Str ⊕ (List (Int ⊕ (Str ⊕ (List Int))))))) ⊕ (Str × List (Str × List Int) × Str × Int × Int))))) => (pSm (pT3 pStr (pM (κ := Str) (pL pInt)) pStr) (pSm (pT4 pStr (pM (κ := Str) (pL pInt)) pStr (pT2 pStr (pSm pStr (pL (pSm pInt (pSm pStr (pL pInt))))))) (pT5 pStr (pM (κ := Str) (pL pInt)) pStr pInt pInt))) b_.2) (x_F_f (kk := 2) (E1 := (pSm (pT3 pStr (pM (κ := Str) (pL pInt)) pStr) (pSm (pT4 pStr (pM (κ := Str) (pL pInt)) pStr (pT2 pStr (pSm pStr (pL (pSm pInt (pSm pStr (pL pInt))))))) (pT5 pStr (pM (κ := Str) (pL pInt)) pStr pInt pInt)))) k_l_line_copy (hr.mono (by decide)) g_l_line_copy F_l_line_copy.kp b_l_line_copy (x_var (p := (pSm (pT3 pStr (pM (κ := Str) (pL pInt)) pStr) (pSm (pT4 pStr (pM (κ := Str) (pL pInt)) pStr (pT2 pStr (pSm pStr (pL (pSm pInt (pSm pStr (pL pInt))))))) (pT5 pStr (pM (κ := Str) (pL pInt)) pStr pInt pInt))) x358) 10)))) (sw_true rfl rfl rfl (by decide +kernel))) fun (b365 : (Unit × ((List ((Str × List (Str × List Int) × Str) ⊕ ((Str × List (Str × List Int) × Str × (Str × (Str ⊕ (List (Int ⊕ (Str ⊕ (List Int))))))) ⊕ (Str × List (Str × List Int) × Str × Int × Int)))) × Unit))) x364 v367 => s_frz (i := 7) (c := ⟨v367, (oL (pSm (pT3 pStr (pM (κ := Str) (pL pInt)) pStr) (pSm (pT4 pStr (pM (κ := Str) (pL pInt)) pStr (pT2 pStr (pSm pStr (pL (pSm pInt (pSm pStr (pL pInt))))))) (pT5 pStr (pM (κ := Str) (pL pInt)) pStr pInt pInt)))) x364, none⟩) 0 (s_T (T := grd (dv (2 : Int) = true) ((some ((cutL x364 none (some ((x364.length : Int) / (2 : Int)))) : List ((Str × List (Str × List Int) × Str) ⊕ ((Str × List (Str × List Int) × Str × (Str × (Str ⊕ (List (Int ⊕ (Str ⊕ (List Int))))))) ⊕ (Str × List (Str × List Int) × Str × Int × Int))))).bind fun x368 => grd (rg ((s356.2).length : Int) = true) ((forL (rngL 0 ((s356.2).length : Int).toNat) (() : Unit) fun x372 s371 => (atI (s356.1) x372).bind fun x392 => (M_l_keys_hold x364 (x372 + (1 : Int)) x392).bind fun r393 => if (!r393) = true then inB (some (Tm.rt false)) else ((if (decide (x372 < (x368.length : Int))) = true then (atI (s356.1) x372).bind fun x397 => (M_l_keys_hold x368 (x372 + (1 : Int)) x397).bind fun r398 => some ((!r398), ()) else some (false, ()))).bind fun c399 => if c399.1 = true then inB (some (Tm.rt false)) else some (Bo.nx ())).bind (boK (fun s373 => (forL ([(0 : Int), (-(1 : Int)), (((s356.2).length : Int) + (1 : Int)), ((10 : Int) ^ (30 : Int).toNat)]) (() : Unit) fun x376 s375 => (M_l_unknown x364 x376).bind fun r387 => ((if (!r387) = true then some (true, ()) else (M_l_unknown ([]) x376).bind fun r389 => some ((!r389), ()))).bind fun c390 => if c390.1 = true then inB (some (Tm.rt false)) else some (Bo.nx ())).bind (boK (fun s377 => (M_l_unknown x368 ((x368.length : Int) + (1 : Int))).bind fun r378 => ((if (!r378) = true then some (true, ()) else grd (lokG (deSm (deT3 (deG dgStr injStr (of_decide_eq_true rfl)) (deM (κ := Str) (deG (dgL dgInt) (injL injInt) (of_decide_eq_true rfl))) (deG dgStr injStr (of_decide_eq_true rfl))) (deSm (deT4 (deG dgStr injStr (of_decide_eq_true rfl)) (deM (κ := Str) (deG (dgL dgInt) (injL injInt) (of_decide_eq_true rfl))) (deG dgStr injStr (of_decide_eq_true rfl)) (deT2 (deG dgStr injStr (of_decide_eq_true rfl)) (deSm (deG dgStr injStr (of_decide_eq_true rfl)) (deL (deSm (deG dgInt injInt (of_decide_eq_true rfl)) (deSm (deG dgStr injStr (of_decide_eq_true rfl)) (deG (dgL dgInt) (injL injInt) (of_decide_eq_true rfl)))))))) (deT5 (deG dgStr injStr (of_decide_eq_true rfl)) (deM (κ := Str) (deG (dgL dgInt) (injL injInt) (of_decide_eq_true rfl))) (deG dgStr injStr (of_decide_eq_true rfl)) (deG dgInt injInt (of_decide_eq_true rfl)) (deG dgInt injInt (of_decide_eq_true rfl))))).ok x364 (s356.2) = true) (some ((!leqG (deSm (deT3 (deG dgStr injStr (of_decide_eq_true rfl)) (deM (κ := Str) (deG (dgL dgInt) (injL injInt) (of_decide_eq_true rfl))) (deG dgStr injStr (of_decide_eq_true rfl))) (deSm (deT4 (deG dgStr injStr (of_decide_eq_true rfl)) (deM (κ := Str) (deG (dgL dgInt) (injL injInt) (of_decide_eq_true rfl))) (deG dgStr injStr (of_decide_eq_true rfl)) (deT2 (deG dgStr injStr (of_decide_eq_true rfl)) (deSm (deG dgStr injStr (of_decide_eq_true rfl)) (deL (deSm (deG dgInt injInt (of_decide_eq_true rfl)) (deSm (deG dgStr injStr (of_decide_eq_true rfl)) (deG (dgL dgInt) (injL injInt) (of_decide_eq_true rfl)))))))) (deT5 (deG dgStr injStr (of_decide_eq_true rfl)) (deM (κ := Str) (deG (dgL dgInt) (injL injInt) (of_decide_eq_true rfl))) (deG dgStr injStr (of_decide_eq_true rfl)) (deG dgInt injInt (of_decide_eq_true rfl)) (deG dgInt injInt (of_decide_eq_true rfl))))).eqv x364 (s356.2)), ())))).bind fun c379 => if c379.1 = true then some false else (M_l_next (b344.1.2.2.2) (16 : Int)).bind fun r381 => ((if (decide ((r381.1) < (15 : Int))) = true then some (true, r381.2) else (M_l_next (r381.2) (1500 : Int)).bind fun r384 => (M_l_long_holds ((1 : Int) + (r384.1))).bind fun r385 => some (r385, r384.2))).bind fun c386 => some (c386.1)) id)) id)))) (s_let (i := 8) (pL (pSm (pT3 pStr (pM (κ := Str) (pL pInt)) pStr) (pSm (pT4 pStr (pM (κ := Str) (pL pInt)) pStr (pT2 pStr (pSm pStr (pL (pSm pInt (pSm pStr (pL pInt))))))) (pT5 pStr (pM (κ := Str) (pL pInt)) pStr pInt pInt)))) sc_law.nd (x_kd (E := fun (b_ : (Unit × (Unit × (Unit × Unit)))) => (pL (pSm (pT3 pStr (pM (κ := Str) (pL pInt)) pStr) (pSm (pT4 pStr (pM (κ := Str) (pL pInt)) pStr (pT2 pStr (pSm pStr (pL (pSm pInt (pSm pStr (pL pInt))))))) (pT5 pStr (pM (κ := Str) (pL pInt)) pStr pInt pInt)))) (cutL x364 none (some ((x364.length : Int) / (2 : Int))))) (x_frz (o_kd (E := fun (b_ : (Unit × (Unit × (Unit × Unit)))) => (oL (pSm (pT3 pStr (pM (κ := Str) (pL pInt)) pStr) (pSm (pT4 pStr (pM (κ := Str) (pL pInt)) pStr (pT2 pStr (pSm pStr (pL (pSm pInt (pSm pStr (pL pInt))))))) (pT5 pStr (pM (κ := Str) (pL pInt)) pStr pInt pInt)))) (cutL x364 none (some ((x364.length : Int) / (2 : Int))))) (x_slL (Ee := (pSm (pT3 pStr (pM (κ := Str) (pL pInt)) pStr) (pSm (pT4 pStr (pM (κ := Str) (pL pInt)) pStr (pT2 pStr (pSm pStr (pL (pSm pInt (pSm pStr (pL pInt))))))) (pT5 pStr (pM (κ := Str) (pL pInt)) pStr pInt pInt)))) (x_var (p := (pL (pSm (pT3 pStr (pM (κ := Str) (pL pInt)) pStr) (pSm (pT4 pStr (pM (κ := Str) (pL pInt)) pStr (pT2 pStr (pSm pStr (pL (pSm pInt (pSm pStr (pL pInt))))))) (pT5 pStr (pM (κ := Str) (pL pInt)) pStr pInt pInt)))) x364) 7) (fun _ => p_none) (fun _ _ => p_some (i := fun (b_ : (Unit × Unit)) => ((x364.length : Int) / (2 : Int))) (x_kd (E := fun (b_ : (Unit × Unit)) => pInt ((x364.length : Int) / (2 : Int))) (x_fdiv (x_kd (E := fun (b_ : Unit) => pInt (x364.length : Int)) (x_lenL (Ee := (pSm (pT3 pStr (pM (κ := Str) (pL pInt)) pStr) (pSm (pT4 pStr (pM (κ := Str) (pL pInt)) pStr (pT2 pStr (pSm pStr (pL (pSm pInt (pSm pStr (pL pInt))))))) (pT5 pStr (pM (κ := Str) (pL pInt)) pStr pInt pInt)))) m_len (x_var (p := (pL (pSm (pT3 pStr (pM (κ := Str) (pL pInt)) pStr) (pSm (pT4 pStr (pM (κ := Str) (pL pInt)) pStr (pT2 pStr (pSm pStr (pL (pSm pInt (pSm pStr (pL pInt))))))) (pT5 pStr (pM (κ := Str) (pL pInt)) pStr pInt pInt)))) x364) 7) (fun _ => rdF))) (fun _ => x_int (i := 2))))) (fun _ _ _ => rdF))))) fun (b369 : (Unit × (Unit × (Unit × Unit)))) x368 => s_T (T := grd (rg ((s356.2).length : Int) = true) ((forL (rngL 0 ((s356.2).length : Int).toNat) (() : Unit) fun x372 s371 => (atI (s356.1) x372).bind fun x392 => (M_l_keys_hold x364 (x372 + (1 : Int)) x392).bind fun r393 => if (!r393) = true then inB (some (Tm.rt false)) else ((if (decide (x372 < (x368.length : Int))) = true then (atI (s356.1) x372).bind fun x397 => (M_l_keys_hold x368 (x372 + (1 : Int)) x397).bind fun r398 => some ((!r398), ()) else some (false, ()))).bind fun c399 => if c399.1 = true then inB (some (Tm.rt false)) else some (Bo.nx ())).bind (boK (fun s373 => (forL ([(0 : Int), (-(1 : Int)), (((s356.2).length : Int) + (1 : Int)), ((10 : Int) ^ (30 : Int).toNat)]) (() : Unit) fun x376 s375 => (M_l_unknown x364 x376).bind fun r387 => ((if (!r387) = true then some (true, ()) else (M_l_unknown ([]) x376).bind fun r389 => some ((!r389), ()))).bind fun c390 => if c390.1 = true then inB (some (Tm.rt false)) else some (Bo.nx ())).bind (boK (fun s377 => (M_l_unknown x368 ((x368.length : Int) + (1 : Int))).bind fun r378 => ((if (!r378) = true then some (true, ()) else grd (lokG (deSm (deT3 (deG dgStr injStr (of_decide_eq_true rfl)) (deM (κ := Str) (deG (dgL dgInt) (injL injInt) (of_decide_eq_true rfl))) (deG dgStr injStr (of_decide_eq_true rfl))) (deSm (deT4 (deG dgStr injStr (of_decide_eq_true rfl)) (deM (κ := Str) (deG (dgL dgInt) (injL injInt) (of_decide_eq_true rfl))) (deG dgStr injStr (of_decide_eq_true rfl)) (deT2 (deG dgStr injStr (of_decide_eq_true rfl)) (deSm (deG dgStr injStr (of_decide_eq_true rfl)) (deL (deSm (deG dgInt injInt (of_decide_eq_true rfl)) (deSm (deG dgStr injStr (of_decide_eq_true rfl)) (deG (dgL dgInt) (injL injInt) (of_decide_eq_true rfl)))))))) (deT5 (deG dgStr injStr (of_decide_eq_true rfl)) (deM (κ := Str) (deG (dgL dgInt) (injL injInt) (of_decide_eq_true rfl))) (deG dgStr injStr (of_decide_eq_true rfl)) (deG dgInt injInt (of_decide_eq_true rfl)) (deG dgInt injInt (of_decide_eq_true rfl))))).ok x364 (s356.2) = true) (some ((!leqG (deSm (deT3 (deG dgStr injStr (of_decide_eq_true rfl)) (deM (κ := Str) (deG (dgL dgInt) (injL injInt) (of_decide_eq_true rfl))) (deG dgStr injStr (of_decide_eq_true rfl))) (deSm (deT4 (deG dgStr injStr (of_decide_eq_true rfl)) (deM (κ := Str) (deG (dgL dgInt) (injL injInt) (of_decide_eq_true rfl))) (deG dgStr injStr (of_decide_eq_true rfl)) (deT2 (deG dgStr injStr (of_decide_eq_true rfl)) (deSm (deG dgStr injStr (of_decide_eq_true rfl)) (deL (deSm (deG dgInt injInt (of_decide_eq_true rfl)) (deSm (deG dgStr injStr (of_decide_eq_true rfl)) (deG (dgL dgInt) (injL injInt) (of_decide_eq_true rfl)))))))) (deT5 (deG dgStr injStr (of_decide_eq_true rfl)) (deM (κ := Str) (deG (dgL dgInt) (injL injInt) (of_decide_eq_true rfl))) (deG dgStr injStr (of_decide_eq_true rfl)) (deG dgInt injInt (of_decide_eq_true rfl)) (deG dgInt injInt (of_decide_eq_true rfl))))).eqv x364 (s356.2)), ())))).bind fun c379 => if c379.1 = true then some false else (M_l_next (b344.1.2.2.2) (16 : Int)).bind fun r381 => ((if (decide ((r381.1) < (15 : Int))) = true then some (true, r381.2) else (M_l_next (r381.2) (1500 : Int)).bind fun r384 => (M_l_long_holds ((1 : Int) + (r384.1))).bind fun r385 => some (r385, r384.2))).bind fun c386 => some (c386.1)) id)) id))) (s_for PassesOwn.never (fun (b_ : Unit) (s_ : Unit) => ([some ((pS K) a1), some (pV v328), some ((pL pStr) x337), some (pInt x343), some ((pL (pSm (pT3 pStr (pM (κ := Str) (pL pInt)) pStr) (pSm (pT4 pStr (pM (κ := Str) (pL pInt)) pStr (pT2 pStr (pSm pStr (pL (pSm pInt (pSm pStr (pL pInt))))))) (pT5 pStr (pM (κ := Str) (pL pInt)) pStr pInt pInt)))) s356.2), some ((pL (pL pStr)) s356.1), none, some ((pL (pSm (pT3 pStr (pM (κ := Str) (pL pInt)) pStr) (pSm (pT4 pStr (pM (κ := Str) (pL pInt)) pStr (pT2 pStr (pSm pStr (pL (pSm pInt (pSm pStr (pL pInt))))))) (pT5 pStr (pM (κ := Str) (pL pInt)) pStr pInt pInt)))) x364), some ((pL (pSm (pT3 pStr (pM (κ := Str) (pL pInt)) pStr) (pSm (pT4 pStr (pM (κ := Str) (pL pInt)) pStr (pT2 pStr (pSm pStr (pL (pSm pInt (pSm pStr (pL pInt))))))) (pT5 pStr (pM (κ := Str) (pL pInt)) pStr pInt pInt)))) x368), none, none], [⟨v328, (oL pInt) b344.1.2.2.2, none⟩])) (fun (b_ : Unit) => ()) (ι := id) (R := (RF ⟨H, Mq⟩ (fun _ => []) pBl)) (i_rng1 m_range (x_kd (E := fun (b_ : Unit) => pInt ((s356.2).length : Int)) (x_lenL (Ee := (pSm (pT3 pStr (pM (κ := Str) (pL pInt)) pStr) (pSm (pT4 pStr (pM (κ := Str) (pL pInt)) pStr (pT2 pStr (pSm pStr (pL (pSm pInt (pSm pStr (pL pInt))))))) (pT5 pStr (pM (κ := Str) (pL pInt)) pStr pInt pInt)))) m_len (x_var (p := (pL (pSm (pT3 pStr (pM (κ := Str) (pL pInt)) pStr) (pSm (pT4 pStr (pM (κ := Str) (pL pInt)) pStr (pT2 pStr (pSm pStr (pL (pSm pInt (pSm pStr (pL pInt))))))) (pT5 pStr (pM (κ := Str) (pL pInt)) pStr pInt pInt)))) s356.2) 4) (fun _ => rdF)))) (pg_name (i := 6) sc_law.nd rfl (by first | exact .inl rfl | exact .inr rfl)) (tg_name 6) (fun _ => (by exact ⟨rfl, rfl, rfl, rfl, rfl, rfl, rfl, rfl, trivial⟩)) (fun _ => List.Sublist.refl _) (fun b370 x372 s371 => s_T (T := (atI (s356.1) x372).bind fun x392 => (M_l_keys_hold x364 (x372 + (1 : Int)) x392).bind fun r393 => if (!r393) = true then inB (some (Tm.rt false)) else ((if (decide (x372 < (x368.length : Int))) = true then (atI (s356.1) x372).bind fun x397 => (M_l_keys_hold x368 (x372 + (1 : Int)) x397).bind fun r398 => some ((!r398), ()) else some (false, ()))).bind fun c399 => if c399.1 = true then inB (some (Tm.rt false)) else some (Bo.nx ())) (s_ifB ins_T (t_kd (c := fun (b_ : ((Unit × ((Unit × Unit) × ((Unit × Unit) × (List Str)))) × Bool)) => (!b_.2)) (t_not (t_kd (c := fun (b_ : ((Unit × ((Unit × Unit) × ((Unit × Unit) × (List Str)))) × Bool)) => b_.2) (t_val (x_kd (E := fun (b_ : ((Unit × ((Unit × Unit) × ((Unit × Unit) × (List Str)))) × Bool)) => pBl b_.2) (x_FFF_f (kk := 3) (E1 := (pL (pSm (pT3 pStr (pM (κ := Str) (pL pInt)) pStr) (pSm (pT4 pStr (pM (κ := Str) (pL pInt)) pStr (pT2 pStr (pSm pStr (pL (pSm pInt (pSm pStr (pL pInt))))))) (pT5 pStr (pM (κ := Str) (pL pInt)) pStr pInt pInt))))) (E2 := pInt) (E3 := (pL pStr)) k_l_keys_hold (hr.mono (by decide)) g_l_keys_hold F_l_keys_hold.kp b_l_keys_hold (x_var (p := (pL (pSm (pT3 pStr (pM (κ := Str) (pL pInt)) pStr) (pSm (pT4 pStr (pM (κ := Str) (pL pInt)) pStr (pT2 pStr (pSm pStr (pL (pSm pInt (pSm pStr (pL pInt))))))) (pT5 pStr (pM (κ := Str) (pL pInt)) pStr pInt pInt)))) x364) 7) (fun _ => x_kd (E := fun (b_ : (Unit × Unit)) => pInt (x372 + (1 : Int))) (x_add (x_var (p := pInt x372) 6) (fun _ => x_int (i := 1)))) (fun _ _ => x_kd (E := fun (b_ : ((Unit × Unit) × (List Str))) => (pL pStr) b_.2) (x_ixL (Ee := (pL pStr)) (x_var (p := (pL (pL pStr)) s356.1) 5) (fun _ => x_var (p := pInt x372) 6) (fun _ _ => rdF))))))))) (fun (b394 : ((Unit × ((Unit × Unit) × ((Unit × Unit) × (List Str)))) × Bool)) => s_T (T := some (Tm.rt false)) (s_ret (P := (fun _ => [])) (Rp := pBl) (ι := Tm.rt) (rv := fun (b : Unit) => false) (fun _ _ _ h => h) x_bl (fun _ => .cons _ (.slnil)))) fun (b394 : ((Unit × ((Unit × Unit) × ((Unit × Unit) × (List Str)))) × Bool)) => s_T (T := ((if (decide (x372 < (x368.length : Int))) = true then (atI (s356.1) x372).bind fun x397 => (M_l_keys_hold x368 (x372 + (1 : Int)) x397).bind fun r398 => some ((!r398), ()) else some (false, ()))).bind fun c399 => if c399.1 = true then inB (some (Tm.rt false)) else some (Bo.nx ())) (s_ifB ins_T (t_kd (c := fun (b_ : ((Unit × Unit) × (Bool × Unit))) => b_.2.1) (PW.pt (w_andM (ΔS := fun (b_ : (Unit × Unit)) (s_ : Unit) => [⟨v328, (oL pInt) b344.1.2.2.2, none⟩]) (s1 := fun (b_ : (Unit × Unit)) => ()) (s2 := fun (b_ : (Unit × Unit)) (c_ : ((Unit × ((Unit × Unit) × ((Unit × Unit) × (List Str)))) × Bool)) => ()) (t_kd (c := fun (b_ : (Unit × Unit)) => (decide (x372 < (x368.length : Int)))) (t_lt (x_var (p := pInt x372) 6) (fun _ => x_kd (E := fun (b_ : Unit) => pInt (x368.length : Int)) (x_lenL (Ee := (pSm (pT3 pStr (pM (κ := Str) (pL pInt)) pStr) (pSm (pT4 pStr (pM (κ := Str) (pL pInt)) pStr (pT2 pStr (pSm pStr (pL (pSm pInt (pSm pStr (pL pInt))))))) (pT5 pStr (pM (κ := Str) (pL pInt)) pStr pInt pInt)))) m_len (x_var (p := (pL (pSm (pT3 pStr (pM (κ := Str) (pL pInt)) pStr) (pSm (pT4 pStr (pM (κ := Str) (pL pInt)) pStr (pT2 pStr (pSm pStr (pL (pSm pInt (pSm pStr (pL pInt))))))) (pT5 pStr (pM (κ := Str) (pL pInt)) pStr pInt pInt)))) x368) 8) (fun _ => rdF))))) (fun _ => w_and1 (t_kd (c := fun (b_ : ((Unit × ((Unit × Unit) × ((Unit × Unit) × (List Str)))) × Bool)) => (!b_.2)) (t_not (t_kd (c := fun (b_ : ((Unit × ((Unit × Unit) × ((Unit × Unit) × (List Str)))) × Bool)) => b_.2) (t_val (x_kd (E := fun (b_ : ((Unit × ((Unit × Unit) × ((Unit × Unit) × (List Str)))) × Bool)) => pBl b_.2) (x_FFF_f (kk := 3) (E1 := (pL (pSm (pT3 pStr (pM (κ := Str) (pL pInt)) pStr) (pSm (pT4 pStr (pM (κ := Str) (pL pInt)) pStr (pT2 pStr (pSm pStr (pL (pSm pInt (pSm pStr (pL pInt))))))) (pT5 pStr (pM (κ := Str) (pL pInt)) pStr pInt pInt))))) (E2 := pInt) (E3 := (pL pStr)) k_l_keys_hold (hr.mono (by decide)) g_l_keys_hold F_l_keys_hold.kp b_l_keys_hold (x_var (p := (pL (pSm (pT3 pStr (pM (κ := Str) (pL pInt)) pStr) (pSm (pT4 pStr (pM (κ := Str) (pL pInt)) pStr (pT2 pStr (pSm pStr (pL (pSm pInt (pSm pStr (pL pInt))))))) (pT5 pStr (pM (κ := Str) (pL pInt)) pStr pInt pInt)))) x368) 8) (fun _ => x_kd (E := fun (b_ : (Unit × Unit)) => pInt (x372 + (1 : Int))) (x_add (x_var (p := pInt x372) 6) (fun _ => x_int (i := 1)))) (fun _ _ => x_kd (E := fun (b_ : ((Unit × Unit) × (List Str))) => (pL pStr) b_.2) (x_ixL (Ee := (pL pStr)) (x_var (p := (pL (pL pStr)) s356.1) 5) (fun _ => x_var (p := pInt x372) 6) (fun _ _ => rdF)))))))))) (fun _ => rfl) (fun _ _ => rfl)))) (fun (b400 : ((Unit × Unit) × (Bool × Unit))) => s_T (T := some (Tm.rt false)) (s_ret (P := (fun _ => [])) (Rp := pBl) (ι := Tm.rt) (rv := fun (b : Unit) => false) (fun _ _ _ h => h) x_bl (fun _ => .cons _ (.slnil)))) fun (b400 : ((Unit × Unit) × (Bool × Unit))) => s_endB () (by exact ⟨rfl, rfl, rfl, rfl, rfl, rfl, rfl, rfl, trivial⟩) (List.Sublist.refl _)))) (fun b370 s373 => s_T (T := (forL ([(0 : Int), (-(1 : Int)), (((s356.2).length : Int) + (1 : Int)), ((10 : Int) ^ (30 : Int).toNat)]) (() : Unit) fun x376 s375 => (M_l_unknown x364 x376).bind fun r387 => ((if (!r387) = true then some (true, ()) else (M_l_unknown ([]) x376).bind fun r389 => some ((!r389), ()))).bind fun c390 => if c390.1 = true then inB (some (Tm.rt false)) else some (Bo.nx ())).bind (boK (fun s377 => (M_l_unknown x368 ((x368.length : Int) + (1 : Int))).bind fun r378 => ((if (!r378) = true then some (true, ()) else grd (lokG (deSm (deT3 (deG dgStr injStr (of_decide_eq_true rfl)) (deM (κ := Str) (deG (dgL dgInt) (injL injInt) (of_decide_eq_true rfl))) (deG dgStr injStr (of_decide_eq_true rfl))) (deSm (deT4 (deG dgStr injStr (of_decide_eq_true rfl)) (deM (κ := Str) (deG (dgL dgInt) (injL injInt) (of_decide_eq_true rfl))) (deG dgStr injStr (of_decide_eq_true rfl)) (deT2 (deG dgStr injStr (of_decide_eq_true rfl)) (deSm (deG dgStr injStr (of_decide_eq_true rfl)) (deL (deSm (deG dgInt injInt (of_decide_eq_true rfl)) (deSm (deG dgStr injStr (of_decide_eq_true rfl)) (deG (dgL dgInt) (injL injInt) (of_decide_eq_true rfl)))))))) (deT5 (deG dgStr injStr (of_decide_eq_true rfl)) (deM (κ := Str) (deG (dgL dgInt) (injL injInt) (of_decide_eq_true rfl))) (deG dgStr injStr (of_decide_eq_true rfl)) (deG dgInt injInt (of_decide_eq_true rfl)) (deG dgInt injInt (of_decide_eq_true rfl))))).ok x364 (s356.2) = true) (some ((!leqG (deSm (deT3 (deG dgStr injStr (of_decide_eq_true rfl)) (deM (κ := Str) (deG (dgL dgInt) (injL injInt) (of_decide_eq_true rfl))) (deG dgStr injStr (of_decide_eq_true rfl))) (deSm (deT4 (deG dgStr injStr (of_decide_eq_true rfl)) (deM (κ := Str) (deG (dgL dgInt) (injL injInt) (of_decide_eq_true rfl))) (deG dgStr injStr (of_decide_eq_true rfl)) (deT2 (deG dgStr injStr (of_decide_eq_true rfl)) (deSm (deG dgStr injStr (of_decide_eq_true rfl)) (deL (deSm (deG dgInt injInt (of_decide_eq_true rfl)) (deSm (deG dgStr injStr (of_decide_eq_true rfl)) (deG (dgL dgInt) (injL injInt) (of_decide_eq_true rfl)))))))) (deT5 (deG dgStr injStr (of_decide_eq_true rfl)) (deM (κ := Str) (deG (dgL dgInt) (injL injInt) (of_decide_eq_true rfl))) (deG dgStr injStr (of_decide_eq_true rfl)) (deG dgInt injInt (of_decide_eq_true rfl)) (deG dgInt injInt (of_decide_eq_true rfl))))).eqv x364 (s356.2)), ())))).bind fun c379 => if c379.1 = true then some false else (M_l_next (b344.1.2.2.2) (16 : Int)).bind fun r381 => ((if (decide ((r381.1) < (15 : Int))) = true then some (true, r381.2) else (M_l_next (r381.2) (1500 : Int)).bind fun r384 => (M_l_long_holds ((1 : Int) + (r384.1))).bind fun r385 => some (r385, r384.2))).bind fun c386 => some (c386.1)) id)) (s_for PassesOwn.never (fun (b_ : (Unit × (Unit × ((Unit × Unit) × ((Unit × Unit) × Unit))))) (s_ : Unit) => ([some ((pS K) a1), some (pV v328), some ((pL pStr) x337), some (pInt x343), some ((pL (pSm (pT3 pStr (pM (κ := Str) (pL pInt)) pStr) (pSm (pT4 pStr (pM (κ := Str) (pL pInt)) pStr (pT2 pStr (pSm pStr (pL (pSm pInt (pSm pStr (pL pInt))))))) (pT5 pStr (pM (κ := Str) (pL pInt)) pStr pInt pInt)))) s356.2), some ((pL (pL pStr)) s356.1), none, some ((pL (pSm (pT3 pStr (pM (κ := Str) (pL pInt)) pStr) (pSm (pT4 pStr (pM (κ := Str) (pL pInt)) pStr (pT2 pStr (pSm pStr (pL (pSm pInt (pSm pStr (pL pInt))))))) (pT5 pStr (pM (κ := Str) (pL pInt)) pStr pInt pInt)))) x364), some ((pL (pSm (pT3 pStr (pM (κ := Str) (pL pInt)) pStr) (pSm (pT4 pStr (pM (κ := Str) (pL pInt)) pStr (pT2 pStr (pSm pStr (pL (pSm pInt (pSm pStr (pL pInt))))))) (pT5 pStr (pM (κ := Str) (pL pInt)) pStr pInt pInt)))) x368), none, none], [⟨v328, (oL pInt) b344.1.2.2.2, none⟩])) (fun (b_ : (Unit × (Unit × ((Unit × Unit) × ((Unit × Unit) × Unit))))) => ()) (ι := id) (R := (RF ⟨H, Mq⟩ (fun _ => []) pBl)) (i_list (x_kd (E := fun (b_ : (Unit × (Unit × ((Unit × Unit) × ((Unit × Unit) × Unit))))) => (pL pInt) ([(0 : Int), (-(1 : Int)), (((s356.2).length : Int) + (1 : Int)), ((10 : Int) ^ (30 : Int).toNat)])) (x_frz (o_kd (E := fun (b_ : (Unit × (Unit × ((Unit × Unit) × ((Unit × Unit) × Unit))))) => (oL pInt) ([(0 : Int), (-(1 : Int)), (((s356.2).length : Int) + (1 : Int)), ((10 : Int) ^ (30 : Int).toNat)])) (x_disp pInt (fun _ => [_, _, _, _]) (a_cons (x_int (i := 0)) (fun _ => a_cons (x_kd (E := fun (b_ : Unit) => pInt (-(1 : Int))) (x_neg (x_int (i := 1)))) (fun _ => a_cons (x_kd (E := fun (b_ : (Unit × Unit)) => pInt (((s356.2).length : Int) + (1 : Int))) (x_add (x_kd (E := fun (b_ : Unit) => pInt ((s356.2).length : Int)) (x_lenL (Ee := (pSm (pT3 pStr (pM (κ := Str) (pL pInt)) pStr) (pSm (pT4 pStr (pM (κ := Str) (pL pInt)) pStr (pT2 pStr (pSm pStr (pL (pSm pInt (pSm pStr (pL pInt))))))) (pT5 pStr (pM (κ := Str) (pL pInt)) pStr pInt pInt)))) m_len (x_var (p := (pL (pSm (pT3 pStr (pM (κ := Str) (pL pInt)) pStr) (pSm (pT4 pStr (pM (κ := Str) (pL pInt)) pStr (pT2 pStr (pSm pStr (pL (pSm pInt (pSm pStr (pL pInt))))))) (pT5 pStr (pM (κ := Str) (pL pInt)) pStr pInt pInt)))) s356.2) 4) (fun _ => rdF))) (fun _ => x_int (i := 1)))) (fun _ => a_cons (x_kd (E := fun (b_ : (Unit × Unit)) => pInt ((10 : Int) ^ (30 : Int).toNat)) (x_pow (x_int (i := 10)) (fun _ => x_int (i := 30)) (fun _ _ => by decide))) (fun _ => a_nil))))) (fun _ => rfl) (fun _ => by simp)))))) (pg_name (i := 9) sc_law.nd rfl (by first | exact .inl rfl | exact .inr rfl)) (tg_name 9) (fun _ => (by exact ⟨rfl, rfl, rfl, rfl, rfl, rfl, rfl, rfl, trivial⟩)) (fun _ => List.Sublist.refl _) (fun b374 x376 s375 => s_T (T := (M_l_unknown x364 x376).bind fun r387 => ((if (!r387) = true then some (true, ()) else (M_l_unknown ([]) x376).bind fun r389 => some ((!r389), ()))).bind fun c390 => if c390.1 = true then inB (some (Tm.rt false)) else some (Bo.nx ())) (s_ifB ins_T (t_kd (c := fun (b_ : (((Unit × Unit) × Bool) × (Bool × Unit))) => b_.2.1) (PW.pt (w_orM (ΔS := fun (b_ : ((Unit × Unit) × Bool)) (s_ : Unit) => [⟨v328, (oL pInt) b344.1.2.2.2, none⟩]) (s1 := fun (b_ : ((Unit × Unit) × Bool)) => ()) (s2 := fun (b_ : ((Unit × Unit) × Bool)) (c_ : ((Unit × Unit) × Bool)) => ()) (t_kd (c := fun (b_ : ((Unit × Unit) × Bool)) => (!b_.2)) (t_not (t_kd (c := fun (b_ : ((Unit × Unit) × Bool)) => b_.2) (t_val (x_kd (E := fun (b_ : ((Unit × Unit) × Bool)) => pBl b_.2) (x_FF_f (kk := 3) (E1 := (pL (pSm (pT3 pStr (pM (κ := Str) (pL pInt)) pStr) (pSm (pT4 pStr (pM (κ := Str) (pL pInt)) pStr (pT2 pStr (pSm pStr (pL (pSm pInt (pSm pStr (pL pInt))))))) (pT5 pStr (pM (κ := Str) (pL pInt)) pStr pInt pInt))))) (E2 := pInt) k_l_unknown (hr.mono (by decide)) g_l_unknown F_l_unknown.kp b_l_unknown (x_var (p := (pL (pSm (pT3 pStr (pM (κ := Str) (pL pInt)) pStr) (pSm (pT4 pStr (pM (κ := Str) (pL pInt)) pStr (pT2 pStr (pSm pStr (pL (pSm pInt (pSm pStr (pL pInt))))))) (pT5 pStr (pM (κ := Str) (pL pInt)) pStr pInt pInt)))) x364) 7) (fun _ => x_var (p := pInt x376) 9))))))) (fun _ => w_or1 (t_kd (c := fun (b_ : ((Unit × Unit) × Bool)) => (!b_.2)) (t_not (t_kd (c := fun (b_ : ((Unit × Unit) × Bool)) => b_.2) (t_val (x_kd (E := fun (b_ : ((Unit × Unit) × Bool)) => pBl b_.2) (x_FF_f (kk := 3) (E1 := (pL (pSm (pT3 pStr (pM (κ := Str) (pL pInt)) pStr) (pSm (pT4 pStr (pM (κ := Str) (pL pInt)) pStr (pT2 pStr (pSm pStr (pL (pSm pInt (pSm pStr (pL pInt))))))) (pT5 pStr (pM (κ := Str) (pL pInt)) pStr pInt pInt))))) (E2 := pInt) k_l_unknown (hr.mono (by decide)) g_l_unknown F_l_unknown.kp b_l_unknown (x_kd (E := fun (b_ : Unit) => (pL (pSm (pT3 pStr (pM (κ := Str) (pL pInt)) pStr) (pSm (pT4 pStr (pM (κ := Str) (pL pInt)) pStr (pT2 pStr (pSm pStr (pL (pSm pInt (pSm pStr (pL pInt))))))) (pT5 pStr (pM (κ := Str) (pL pInt)) pStr pInt pInt)))) ([])) (x_frz (o_kd (E := fun (b_ : Unit) => (oL (pSm (pT3 pStr (pM (κ := Str) (pL pInt)) pStr) (pSm (pT4 pStr (pM (κ := Str) (pL pInt)) pStr (pT2 pStr (pSm pStr (pL (pSm pInt (pSm pStr (pL pInt))))))) (pT5 pStr (pM (κ := Str) (pL pInt)) pStr pInt pInt)))) ([])) (x_nil (pSm (pT3 pStr (pM (κ := Str) (pL pInt)) pStr) (pSm (pT4 pStr (pM (κ := Str) (pL pInt)) pStr (pT2 pStr (pSm pStr (pL (pSm pInt (pSm pStr (pL pInt))))))) (pT5 pStr (pM (κ := Str) (pL pInt)) pStr pInt pInt))))))) (fun _ => x_var (p := pInt x376) 9)))))))) (fun _ => rfl) (fun _ _ => rfl)))) (fun (b391 : (((Unit × Unit) × Bool) × (Bool × Unit))) => s_T (T := some (Tm.rt false)) (s_ret (P := (fun _ => [])) (Rp := pBl) (ι := Tm.rt) (rv := fun (b : Unit) => false) (fun _ _ _ h => h) x_bl (fun _ => .cons _ (.slnil)))) fun (b391 : (((Unit × Unit) × Bool) × (Bool × Unit))) => s_endB () (by exact ⟨rfl, rfl, rfl, rfl, rfl, rfl, rfl, rfl, trivial⟩) (List.Sublist.refl _))) (fun b374 s377 => s_T (T := (M_l_unknown x368 ((x368.length : Int) + (1 : Int))).bind fun r378 => ((if (!r378) = true then some (true, ()) else grd (lokG (deSm (deT3 (deG dgStr injStr (of_decide_eq_true rfl)) (deM (κ := Str) (deG (dgL dgInt) (injL injInt) (of_decide_eq_true rfl))) (deG dgStr injStr (of_decide_eq_true rfl))) (deSm (deT4 (deG dgStr injStr (of_decide_eq_true rfl)) (deM (κ := Str) (deG (dgL dgInt) (injL injInt) (of_decide_eq_true rfl))) (deG dgStr injStr (of_decide_eq_true rfl)) (deT2 (deG dgStr injStr (of_decide_eq_true rfl)) (deSm (deG dgStr injStr (of_decide_eq_true rfl)) (deL (deSm (deG dgInt injInt (of_decide_eq_true rfl)) (deSm (deG dgStr injStr (of_decide_eq_true rfl)) (deG (dgL dgInt) (injL injInt) (of_decide_eq_true rfl)))))))) (deT5 (deG dgStr injStr (of_decide_eq_true rfl)) (deM (κ := Str) (deG (dgL dgInt) (injL injInt) (of_decide_eq_true rfl))) (deG dgStr injStr (of_decide_eq_true rfl)) (deG dgInt injInt (of_decide_eq_true rfl)) (deG dgInt injInt (of_decide_eq_true rfl))))).ok x364 (s356.2) = true) (some ((!leqG (deSm (deT3 (deG dgStr injStr (of_decide_eq_true rfl)) (deM (κ := Str) (deG (dgL dgInt) (injL injInt) (of_decide_eq_true rfl))) (deG dgStr injStr (of_decide_eq_true rfl))) (deSm (deT4 (deG dgStr injStr (of_decide_eq_true rfl)) (deM (κ := Str) (deG (dgL dgInt) (injL injInt) (of_decide_eq_true rfl))) (deG dgStr injStr (of_decide_eq_true rfl)) (deT2 (deG dgStr injStr (of_decide_eq_true rfl)) (deSm (deG dgStr injStr (of_decide_eq_true rfl)) (deL (deSm (deG dgInt injInt (of_decide_eq_true rfl)) (deSm (deG dgStr injStr (of_decide_eq_true rfl)) (deG (dgL dgInt) (injL injInt) (of_decide_eq_true rfl)))))))) (deT5 (deG dgStr injStr (of_decide_eq_true rfl)) (deM (κ := Str) (deG (dgL dgInt) (injL injInt) (of_decide_eq_true rfl))) (deG dgStr injStr (of_decide_eq_true rfl)) (deG dgInt injInt (of_decide_eq_true rfl)) (deG dgInt injInt (of_decide_eq_true rfl))))).eqv x364 (s356.2)), ())))).bind fun c379 => if c379.1 = true then some false else (M_l_next (b344.1.2.2.2) (16 : Int)).bind fun r381 => ((if (decide ((r381.1) < (15 : Int))) = true then some (true, r381.2) else (M_l_next (r381.2) (1500 : Int)).bind fun r384 => (M_l_long_holds ((1 : Int) + (r384.1))).bind fun r385 => some (r385, r384.2))).bind fun c386 => some (c386.1)) (s_ifT (ins_F _) (t_kd (c := fun (b_ : (((Unit × (Unit × Unit)) × Bool) × (Bool × Unit))) => b_.2.1) (PW.pt (w_orM (ΔS := fun (b_ : ((Unit × (Unit × Unit)) × Bool)) (s_ : Unit) => [⟨v328, (oL pInt) b344.1.2.2.2, none⟩]) (s1 := fun (b_ : ((Unit × (Unit × Unit)) × Bool)) => ()) (s2 := fun (b_ : ((Unit × (Unit × Unit)) × Bool)) (c_ : (Unit × Unit)) => ()) (t_kd (c := fun (b_ : ((Unit × (Unit × Unit)) × Bool)) => (!b_.2)) (t_not (t_kd (c := fun (b_ : ((Unit × (Unit × Unit)) × Bool)) => b_.2) (t_val (x_kd (E := fun (b_ : ((Unit × (Unit × Unit)) × Bool)) => pBl b_.2) (x_FF_f (kk := 3) (E1 := (pL (pSm (pT3 pStr (pM (κ := Str) (pL pInt)) pStr) (pSm (pT4 pStr (pM (κ := Str) (pL pInt)) pStr (pT2 pStr (pSm pStr (pL (pSm pInt (pSm pStr (pL pInt))))))) (pT5 pStr (pM (κ := Str) (pL pInt)) pStr pInt pInt))))) (E2 := pInt) k_l_unknown (hr.mono (by decide)) g_l_unknown F_l_unknown.kp b_l_unknown (x_var (p := (pL (pSm (pT3 pStr (pM (κ := Str) (pL pInt)) pStr) (pSm (pT4 pStr (pM (κ := Str) (pL pInt)) pStr (pT2 pStr (pSm pStr (pL (pSm pInt (pSm pStr (pL pInt))))))) (pT5 pStr (pM (κ := Str) (pL pInt)) pStr pInt pInt)))) x368) 8) (fun _ => x_kd (E := fun (b_ : (Unit × Unit)) => pInt ((x368.length : Int) + (1 : Int))) (x_add (x_kd (E := fun (b_ : Unit) => pInt (x368.length : Int)) (x_lenL (Ee := (pSm (pT3 pStr (pM (κ := Str) (pL pInt)) pStr) (pSm (pT4 pStr (pM (κ := Str) (pL pInt)) pStr (pT2 pStr (pSm pStr (pL (pSm pInt (pSm pStr (pL pInt))))))) (pT5 pStr (pM (κ := Str) (pL pInt)) pStr pInt pInt)))) m_len (x_var (p := (pL (pSm (pT3 pStr (pM (κ := Str) (pL pInt)) pStr) (pSm (pT4 pStr (pM (κ := Str) (pL pInt)) pStr (pT2 pStr (pSm pStr (pL (pSm pInt (pSm pStr (pL pInt))))))) (pT5 pStr (pM (κ := Str) (pL pInt)) pStr pInt pInt)))) x368) 8) (fun _ => rdF))) (fun _ => x_int (i := 1)))))))))) (fun _ => w_or1 (t_kd (c := fun (b_ : (Unit × Unit)) => (!leqG (deSm (deT3 (deG dgStr injStr (of_decide_eq_true rfl)) (deM (κ := Str) (deG (dgL dgInt) (injL injInt) (of_decide_eq_true rfl))) (deG dgStr injStr (of_decide_eq_true rfl))) (deSm (deT4 (deG dgStr injStr (of_decide_eq_true rfl)) (deM (κ := Str) (deG (dgL dgInt) (injL injInt) (of_decide_eq_true rfl))) (deG dgStr injStr (of_decide_eq_true rfl)) (deT2 (deG dgStr injStr (of_decide_eq_true rfl)) (deSm (deG dgStr injStr (of_decide_eq_true rfl)) (deL (deSm (deG dgInt injInt (of_decide_eq_true rfl)) (deSm (deG dgStr injStr (of_decide_eq_true rfl)) (deG (dgL dgInt) (injL injInt) (of_decide_eq_true rfl)))))))) (deT5 (deG dgStr injStr (of_decide_eq_true rfl)) (deM (κ := Str) (deG (dgL dgInt) (injL injInt) (of_decide_eq_true rfl))) (deG dgStr injStr (of_decide_eq_true rfl)) (deG dgInt injInt (of_decide_eq_true rfl)) (deG dgInt injInt (of_decide_eq_true rfl))))).eqv x364 (s356.2))) (t_neQ (deSm (deT3 (deG dgStr injStr (of_decide_eq_true rfl)) (deM (κ := Str) (deG (dgL dgInt) (injL injInt) (of_decide_eq_true rfl))) (deG dgStr injStr (of_decide_eq_true rfl))) (deSm (deT4 (deG dgStr injStr (of_decide_eq_true rfl)) (deM (κ := Str) (deG (dgL dgInt) (injL injInt) (of_decide_eq_true rfl))) (deG dgStr injStr (of_decide_eq_true rfl)) (deT2 (deG dgStr injStr (of_decide_eq_true rfl)) (deSm (deG dgStr injStr (of_decide_eq_true rfl)) (deL (deSm (deG dgInt injInt (of_decide_eq_true rfl)) (deSm (deG dgStr injStr (of_decide_eq_true rfl)) (deG (dgL dgInt) (injL injInt) (of_decide_eq_true rfl)))))))) (deT5 (deG dgStr injStr (of_decide_eq_true rfl)) (deM (κ := Str) (deG (dgL dgInt) (injL injInt) (of_decide_eq_true rfl))) (deG dgStr injStr (of_decide_eq_true rfl)) (deG dgInt injInt (of_decide_eq_true rfl)) (deG dgInt injInt (of_decide_eq_true rfl))))) (by exact room_dep hr (by decide)) (x_var (p := (pL (pSm (pT3 pStr (pM (κ := Str) (pL pInt)) pStr) (pSm (pT4 pStr (pM (κ := Str) (pL pInt)) pStr (pT2 pStr (pSm pStr (pL (pSm pInt (pSm pStr (pL pInt))))))) (pT5 pStr (pM (κ := Str) (pL pInt)) pStr pInt pInt)))) x364) 7) (fun _ => x_var (p := (pL (pSm (pT3 pStr (pM (κ := Str) (pL pInt)) pStr) (pSm (pT4 pStr (pM (κ := Str) (pL pInt)) pStr (pT2 pStr (pSm pStr (pL (pSm pInt (pSm pStr (pL pInt))))))) (pT5 pStr (pM (κ := Str) (pL pInt)) pStr pInt pInt)))) s356.2) 4)))) (fun _ => rfl) (fun _ _ => rfl)))) (fun (b380 : (((Unit × (Unit × Unit)) × Bool) × (Bool × Unit))) => s_T (T := some false) (s_ret (P := (fun _ => [])) (Rp := pBl) (ι := id) (rv := fun (b : Unit) => false) (fun _ _ _ h => h) x_bl (fun _ => .cons _ (.slnil)))) fun (b380 : (((Unit × (Unit × Unit)) × Bool) × (Bool × Unit))) => s_T (T := (M_l_next (b344.1.2.2.2) (16 : Int)).bind fun r381 => ((if (decide ((r381.1) < (15 : Int))) = true then some (true, r381.2) else (M_l_next (r381.2) (1500 : Int)).bind fun r384 => (M_l_long_holds ((1 : Int) + (r384.1))).bind fun r385 => some (r385, r384.2))).bind fun c386 => some (c386.1)) (s_ret (P := (fun _ => [])) (Rp := pBl) (ι := id) (rv := fun (b : ((((Unit × Unit) × (Int × (List Int))) × Unit) × (Bool × (List Int)))) => b.2.1) (fun _ _ _ h => h) (x_kd (x_kd (E := fun (b_ : ((((Unit × Unit) × (Int × (List Int))) × Unit) × (Bool × (List Int)))) => pBl b_.2.1) (v_orM (ΔS := fun (b_ : (((Unit × Unit) × (Int × (List Int))) × Unit)) (s_ : (List Int)) => [⟨v328, (oL pInt) s_, none⟩]) (s1 := fun (b_ : (((Unit × Unit) × (Int × (List Int))) × Unit)) => b_.1.2.2) (s2 := fun (b_ : (((Unit × Unit) × (Int × (List Int))) × Unit)) (c_ : ((Unit × ((Unit × Unit) × (Int × (List Int)))) × Bool)) => c_.1.2.2.2) (x_kd (E := fun (b_ : (((Unit × Unit) × (Int × (List Int))) × Unit)) => pBl (decide ((b_.1.2.1) < (15 : Int)))) (x_lt (x_kd (E := fun (b_ : ((Unit × Unit) × (Int × (List Int)))) => pInt b_.2.1) (x_OF_f (kk := 1) (E1 := (oL pInt)) (E2 := pInt) (s1 := fun (_ : Unit) (_ : Unit) => b344.1.2.2.2) (v1 := v328) k_l_next (hr.mono (by decide)) g_l_next F_l_next.kp b_l_next 0 (x_var (p := pV v328) 1) (fun _ => x_int (i := 16)) (fun _ _ => rfl))) (fun _ => x_int (i := 15)))) (fun _ => v_one (x_kd (E := fun (b_ : ((Unit × ((Unit × Unit) × (Int × (List Int)))) × Bool)) => pBl b_.2) (x_F_f (kk := 3) (E1 := pInt) k_l_long_holds (hr.mono (by decide)) g_l_long_holds F_l_long_holds.kp b_l_long_holds (x_kd (E := fun (b_ : (Unit × ((Unit × Unit) × (Int × (List Int))))) => pInt ((1 : Int) + (b_.2.2.1))) (x_add (x_int (i := 1)) (fun _ => x_kd (E := fun (b_ : ((Unit × Unit) × (Int × (List Int)))) => pInt b_.2.1) (x_OF_f (kk := 1) (E1 := (oL pInt)) (E2 := pInt) (v1 := v328) k_l_next (hr.mono (by decide)) g_l_next F_l_next.kp b_l_next 0 (x_var (p := pV v328) 1) (fun _ => x_int (i := 1500)) (fun _ _ => rfl)))))))) (fun _ => rfl) (fun _ _ => rfl)))) (fun _ => .cons _ (.slnil))))) (fun _ _ _ h => h))) (fun _ _ _ h => h))))))))))))))) (by unfold M_law; rfl)
end
end My
end
section
namespace My
open PySem PySem.Spec PyProof.Rows L2 L3
def Wp {α : Type} (m : Option α) (Q : α → Prop) : Prop := ∃ a, m = some a ∧ Q a
section
variable {α β γ S ρ δ : Type}
theorem wp_some {a : α} {Q : α → Prop} (h : Q a) : Wp (some a) Q := ⟨a, rfl, h⟩
theorem wp_bind {m : Option α} {k : α → Option β} {Q : β → Prop} (h : Wp m fun a => Wp (k a) Q) : Wp (m.bind k) Q := by
  obtain ⟨a, e, b, e2, q⟩ := h
  exact ⟨b, by rw [e]; exact e2, q⟩
theorem wp_mono {m : Option α} {Q R : α → Prop} (h : Wp m Q) (f : ∀ a, Q a → R a) : Wp m R := by
  obtain ⟨a, e, q⟩ := h
  exact ⟨a, e, f a q⟩
theorem wp_then {m : Option α} {k : α → Option β} {P : α → Prop} {Q : β → Prop} (h : Wp m P) (f : ∀ a, P a → Wp (k a) Q) : Wp (m.bind k) Q := wp_bind (wp_mono h f)
theorem wp_eq {m : Option α} {k : α → Option β} {a : α} {Q : β → Prop} (h : m = some a) (f : Wp (k a) Q) : Wp (m.bind k) Q := wp_bind ⟨a, h, f⟩
theorem wp_grd {c : Prop} [Decidable c] {m : Option α} {Q : α → Prop} (h : c) (f : Wp m Q) : Wp (grd c m) Q := by
  unfold grd
  rw [if_pos h]
  exact f
theorem wp_ite {c : Prop} [Decidable c] {m n : Option α} {Q : α → Prop} (h : c → Wp m Q) (f : ¬ c → Wp n Q) : Wp (if c then m else n) Q := by
  by_cases x : c
  · rw [if_pos x]; exact h x
  · rw [if_neg x]; exact f x
theorem wp_is {m : Option α} {a : α} (h : Wp m fun x => x = a) : m = some a := by
  obtain ⟨b, e, q⟩ := h
  rw [e, q]
theorem gp {γ : Type} {c : Prop} [Decidable c] {x : Option γ} (h : c) : grd c x = x := if_pos h
theorem wp_forS {f : α → S → Option S} {Q : S → Prop} (I : List α → S → Prop) : ∀ {xs : List α} {pre : List α} {s : S}, I pre s → (∀ p x t s, pre ++ xs = p ++ x :: t → I p s → Wp (f x s) (I (p ++ [x]))) → (∀ s, I (pre ++ xs) s → Q s) → Wp (forS xs s f) Q
  | [], pre, s, h0, _, hq => ⟨s, rfl, hq s (by simpa using h0)⟩
  | x :: xs, pre, s, h0, hs, hq => by
    obtain ⟨s1, e1, i1⟩ := hs pre x xs s rfl h0
    have ih := wp_forS (f := f) (Q := Q) I (xs := xs) (pre := pre ++ [x]) (s := s1) i1 (fun p y t s e => hs p y t s (by rw [← e]; simp)) (fun s hi => hq s (by simpa using hi))
    show Wp ((f x s).bind fun s' => forS xs s' f) Q
    exact wp_eq e1 ih
theorem wp_for {f : α → S → Option S} {Q : S → Prop} {xs : List α} {s : S} (I : List α → S → Prop) (h0 : I [] s) (hs : ∀ p x t s, xs = p ++ x :: t → I p s → Wp (f x s) (I (p ++ [x]))) (hq : ∀ s, I xs s → Q s) : Wp (forS xs s f) Q :=
  wp_forS (pre := []) I h0 (fun p x t s e => hs p x t s e) (fun s h => hq s h)
theorem compM_pure {f : α → S → Option (Option δ × S)} {g : α → Option δ} {s : S} : ∀ {xs : List α}, (∀ x ∈ xs, f x s = some (g x, s)) → compM xs s f = some (xs.filterMap g, s)
  | [], _ => rfl
  | x :: xs, h => by
    have ih := compM_pure (f := f) (g := g) (s := s) (xs := xs) fun y hy => h y (List.mem_cons_of_mem _ hy)
    unfold compM
    rw [h x List.mem_cons_self]
    simp only [Option.bind_some]
    rw [ih]
    simp only [Option.bind_some, List.filterMap_cons]
    cases g x <;> rfl
theorem filterMap_some {α δ : Type} {g : α → δ} : ∀ xs : List α, xs.filterMap (fun x => some (g x)) = xs.map g
  | [] => rfl
  | x :: xs => by rw [List.filterMap_cons]; simp [filterMap_some xs]
theorem wp_compM {f : α → S → Option (Option δ × S)} {Q : List δ × S → Prop} (I : List α → List δ → S → Prop) : ∀ {xs : List α} {pre : List α} {out : List δ} {s : S}, I pre out s → (∀ p x t o s, pre ++ xs = p ++ x :: t → I p o s → Wp (f x s) fun r => I (p ++ [x]) (o ++ r.1.toList) r.2) → (∀ r : List δ × S, I (pre ++ xs) (out ++ r.1) r.2 → Q r) → Wp (compM xs s f) Q
  | [], pre, out, s, h0, _, hq => ⟨([], s), rfl, hq ([], s) (by simpa using h0)⟩
  | x :: xs, pre, out, s, h0, hs, hq => by
    obtain ⟨⟨o1, s1⟩, e1, i1⟩ := hs pre x xs out s rfl h0
    obtain ⟨r, e2, q2⟩ := wp_compM (f := f) (Q := fun r => Q (o1.toList ++ r.1, r.2)) I (xs := xs) (pre := pre ++ [x]) (out := out ++ o1.toList) (s := s1) i1 (fun p y t o s e => hs p y t o s (by rw [← e]; simp)) (fun r hi => hq (o1.toList ++ r.1, r.2) (by simpa using hi))
    refine ⟨(o1.toList ++ r.1, r.2), ?_, q2⟩
    unfold compM
    rw [e1]
    simp only [Option.bind_some]
    rw [e2]
    cases o1 <;> rfl
theorem wp_compA {f : α → S → Option (Option δ × S)} {Q : List δ × S → Prop} {xs : List α} {s : S} (J : S → Prop) (P : δ → Prop) (h0 : J s) (hs : ∀ x ∈ xs, ∀ s, J s → Wp (f x s) fun r => ∃ y, r.1 = some y ∧ P y ∧ J r.2) (hq : ∀ ys s, ys.length = xs.length → (∀ y ∈ ys, P y) → J s → Q (ys, s)) : Wp (compM xs s f) Q :=
  wp_compM (fun p o s => o.length = p.length ∧ (∀ y ∈ o, P y) ∧ J s) (pre := []) (out := []) ⟨rfl, (fun _ h => absurd h List.not_mem_nil), h0⟩ (fun p x t o s e ⟨hl, hp, hj⟩ => wp_mono (hs x (by rw [show xs = p ++ x :: t from e]; simp) s hj) fun r ⟨y, e1, e2, e3⟩ => ⟨by rw [e1]; simp [hl], fun z hz => by
    rw [e1] at hz
    rcases List.mem_append.mp hz with h | h
    · exact hp z h
    · simp at h; subst h; exact e2, e3⟩) fun r ⟨hl, hp, hj⟩ => hq r.1 r.2 hl hp hj
end
theorem sz : sizeLine = 16777216 := rfl
theorem sb : scanBound = 4096 := rfl
theorem atI_get {α : Type} {xs : List α} {i : Int} (h0 : 0 ≤ i) (h : i.toNat < xs.length) : atI xs i = some (xs[i.toNat]'h) := by
  unfold atI ixN
  rw [if_pos h0, if_pos (by omega)]
  simp [List.getElem?_eq_getElem h]
theorem wp_at {α : Type} {xs : List α} {i : Int} {Q : α → Prop} (h0 : 0 ≤ i) (h : i < xs.length) (q : ∀ x, x ∈ xs → xs[i.toNat]? = some x → Q x) : Wp (atI xs i) Q :=
  ⟨_, atI_get h0 (by omega), q _ (List.getElem_mem _) (List.getElem?_eq_getElem (by omega))⟩
theorem rngL_mem {lo : Int} {n : Nat} {x : Int} : x ∈ rngL lo n ↔ lo ≤ x ∧ x < lo + n := by
  unfold rngL
  simp only [List.mem_map, List.mem_range]
  constructor
  · rintro ⟨i, h, rfl⟩; omega
  · intro h; exact ⟨(x - lo).toNat, by omega, by omega⟩
theorem mem_split {α : Type} {xs p t : List α} {x : α} (h : xs = p ++ x :: t) : x ∈ xs := by rw [h]; simp
theorem rngL_split {lo : Int} {n : Nat} {p t : List Int} {x : Int} (h : rngL lo n = p ++ x :: t) : x = lo + p.length ∧ p.length < n := by
  have hl := congrArg List.length h
  rw [rngL_len, List.length_append, List.length_cons] at hl
  have e := congrArg (fun l => l[p.length]?) h
  simp only [List.getElem?_append_right (Nat.le_refl _), Nat.sub_self, List.getElem?_cons_zero] at e
  unfold rngL at e
  rw [List.getElem?_map, List.getElem?_range (by omega)] at e
  simp only [Option.map_some, Option.some.injEq] at e
  exact ⟨e.symm, by omega⟩
theorem sub_len {α : Type} [DecidableEq α] : ∀ {xs ys : List α}, xs.Nodup → (∀ x ∈ xs, x ∈ ys) → xs.length ≤ ys.length
  | [], _, _, _ => Nat.zero_le _
  | x :: xs, ys, nd, h => by
    rw [List.nodup_cons] at nd
    have hx := h x List.mem_cons_self
    have := sub_len (xs := xs) (ys := ys.erase x) nd.2 (fun y hy => (List.mem_erase_of_ne (fun e => nd.1 (by rw [← e]; exact hy))).mpr (h y (List.mem_cons_of_mem _ hy)))
    rw [List.length_erase_of_mem hx] at this
    have := List.length_pos_of_mem hx
    rw [List.length_cons]
    omega
end My
end
section
namespace My
open PySem PySem.Spec PyProof.Rows L2 L3
section
variable {κ α : Type} [DecidableEq κ]
abbrev keys (d : List (κ × α)) : List κ := d.map Prod.fst
theorem dget_nil {k : κ} : dget ([] : List (κ × α)) k = none := rfl
theorem dget_cons {p : κ × α} {d : List (κ × α)} {k : κ} : dget (p :: d) k = if p.1 = k then some p.2 else dget d k := by
  by_cases h : p.1 = k
  · rw [if_pos h, dget_pos h]
  · rw [if_neg h, dget_neg h]
theorem dget_none {k : κ} : ∀ {d : List (κ × α)}, dget d k = none ↔ k ∉ keys d
  | [] => by simp [dget_nil]
  | p :: d => by
    rw [dget_cons]
    show _ ↔ k ∉ p.1 :: keys d
    rw [List.mem_cons]
    by_cases h : p.1 = k
    · rw [if_pos h]; simp [h]
    · rw [if_neg h, dget_none]
      simp only [not_or]
      exact ⟨fun x => ⟨fun e => h e.symm, x⟩, fun x => x.2⟩
theorem dget_some {k : κ} {d : List (κ × α)} (h : k ∈ keys d) : ∃ v, dget d k = some v := by
  cases e : dget d k with
  | none => exact absurd h (dget_none.mp e)
  | some v => exact ⟨v, rfl⟩
theorem mem_dget {k : κ} {v : α} : ∀ {d : List (κ × α)}, (keys d).Nodup → (k, v) ∈ d → dget d k = some v
  | [], _, h => nomatch h
  | p :: d, nd, h => by
    have nd : (p.1 :: keys d).Nodup := nd
    rw [List.nodup_cons] at nd
    rw [dget_cons]
    rcases List.mem_cons.mp h with e | h
    · subst e; rw [if_pos rfl]
    · rw [if_neg (fun e => nd.1 (by rw [e]; exact List.mem_map.mpr ⟨(k, v), h, rfl⟩))]
      exact mem_dget nd.2 h
theorem dhas_iff {k : κ} {d : List (κ × α)} : dhas d k = true ↔ k ∈ keys d := by
  unfold dhas
  rw [List.any_eq_true, List.mem_map]
  simp only [decide_eq_true_eq]
theorem dhas_not {k : κ} {d : List (κ × α)} : dhas d k = false ↔ k ∉ keys d := by
  rw [← dhas_iff]; simp
theorem dput_old {d : List (κ × α)} {k : κ} {v : α} (h : k ∈ keys d) : dput d k v = d.map (fun p => if p.1 = k then (p.1, v) else p) := by
  have := dhas_iff.mpr h
  unfold dhas at this
  unfold dput
  rw [if_pos this]
theorem dput_new {d : List (κ × α)} {k : κ} {v : α} (h : k ∉ keys d) : dput d k v = d ++ [(k, v)] := by
  have := dhas_not.mpr h
  unfold dhas at this
  unfold dput
  rw [if_neg (by rw [this]; decide)]
theorem keys_put_old {d : List (κ × α)} {k : κ} {v : α} (h : k ∈ keys d) : keys (dput d k v) = keys d := by
  rw [dput_old h]
  unfold keys
  rw [List.map_map]
  apply List.map_congr_left
  intro p _
  simp only [Function.comp]
  split <;> rfl
theorem keys_put_new {d : List (κ × α)} {k : κ} {v : α} (h : k ∉ keys d) : keys (dput d k v) = keys d ++ [k] := by
  rw [dput_new h]; unfold keys; rw [List.map_append]; rfl
theorem mem_keys_put {d : List (κ × α)} {k j : κ} {v : α} : j ∈ keys (dput d k v) ↔ j ∈ keys d ∨ j = k := by
  by_cases h : k ∈ keys d
  · rw [keys_put_old h]
    exact ⟨.inl, fun x => x.elim id fun e => by rw [e]; exact h⟩
  · rw [keys_put_new h, List.mem_append, List.mem_singleton]
theorem nodup_put {d : List (κ × α)} {k : κ} {v : α} (nd : (keys d).Nodup) : (keys (dput d k v)).Nodup := by
  by_cases h : k ∈ keys d
  · rw [keys_put_old h]; exact nd
  · rw [keys_put_new h]
    refine List.nodup_append.mpr ⟨nd, List.nodup_cons.mpr ⟨List.not_mem_nil, List.nodup_nil⟩, fun a ha b hb e => h ?_⟩
    rw [List.mem_singleton] at hb
    rw [← hb, ← e]; exact ha
theorem get_map_put {k j : κ} {v : α} : ∀ {d : List (κ × α)}, dget (d.map (fun p => if p.1 = k then (p.1, v) else p)) j = if j = k then (dget d j).map (fun _ => v) else dget d j
  | [] => by simp [dget_nil]
  | p :: d => by
    rw [List.map_cons, dget_cons, dget_cons, get_map_put (d := d)]
    by_cases h : p.1 = k
    · rw [if_pos h]
      by_cases h2 : j = k
      · rw [if_pos h2]; simp [h, h2]
      · rw [if_neg h2]; simp only [h]
        rw [if_neg (fun e => h2 e.symm)]
        rw [if_neg h2, if_neg (fun e => h2 e.symm)]
    · rw [if_neg h]
      by_cases h3 : p.1 = j
      · have h2 : ¬ j = k := fun e => h (by rw [h3, e])
        simp [h3, h2]
      · simp [h3]
theorem get_app {j : κ} {e : List (κ × α)} : ∀ {d : List (κ × α)}, dget (d ++ e) j = (dget d j).orElse fun _ => dget e j
  | [] => rfl
  | p :: d => by
    rw [List.cons_append, dget_cons, dget_cons, get_app (d := d)]
    split <;> rfl
theorem get_put_same {d : List (κ × α)} {k : κ} {v : α} : dget (dput d k v) k = some v := by
  by_cases h : k ∈ keys d
  · rw [dput_old h, get_map_put, if_pos rfl]
    obtain ⟨u, e⟩ := dget_some h
    rw [e]; rfl
  · rw [dput_new h, get_app, dget_none.mpr h]
    show dget [(k, v)] k = _
    rw [dget_cons, if_pos rfl]
theorem get_put_ne {d : List (κ × α)} {k j : κ} {v : α} (hj : j ≠ k) : dget (dput d k v) j = dget d j := by
  by_cases h : k ∈ keys d
  · rw [dput_old h, get_map_put, if_neg hj]
  · rw [dput_new h, get_app]
    cases e : dget d j with
    | some u => rfl
    | none =>
      show dget [(k, v)] j = none
      rw [dget_cons, if_neg (fun e => hj e.symm)]
      rfl
theorem get_put {d : List (κ × α)} {k j : κ} {v : α} : dget (dput d k v) j = if j = k then some v else dget d j := by
  by_cases h : j = k
  · rw [if_pos h, h, get_put_same]
  · rw [if_neg h, get_put_ne h]
end
end My
end
section
namespace My
open PySem PySem.Spec PyProof.Rows L2 L3
def Stm (s : List Int) : Prop := ∃ a b c, s = [a, b, c]
theorem next_wp {s : List Int} {n : Int} (hs : Stm s) (h0 : 0 < n) (h1 : n < 1073741824) : Wp (M_l_next s n) fun r => 0 ≤ r.1 ∧ r.1 < n ∧ Stm r.2 := by
  obtain ⟨a, b, c, rfl⟩ := hs
  have e0 : atI [a, b, c] (1 : Int) = some b := rfl
  have e1 : ixN [a, b, c].length (1 : Int) = some 1 := rfl
  have hdv : dv n = true := by unfold dv; simp; omega
  unfold M_l_next
  rw [e0, e1]
  simp only [Option.bind_some, Option.getD_some, List.set]
  have e2 : atI [a, b + 1, c] (0 : Int) = some a := rfl
  have e3 : atI [a, b + 1, c] (2 : Int) = some c := rfl
  have e4 : atI [a, b + 1, c] (1 : Int) = some (b + 1) := rfl
  have e5 : ixN [a, b + 1, c].length (0 : Int) = some 0 := rfl
  rw [e2, e3, e4, e5]
  simp only [Option.bind_some, Option.getD_some, List.set]
  by_cases h : 0 < a
  · rw [if_pos (by simpa using h), gp h0, gp hdv]
    exact ⟨_, rfl, Int.emod_nonneg _ (by omega), Int.emod_lt_of_pos _ h0, ⟨_, _, _, rfl⟩⟩
  · rw [if_neg (by simpa using h)]
    rw [gp (by rfl), gp (by decide), gp, gp (by decide), gp, gp (by rfl), gp (by decide), gp (by rfl), gp h0]
    · exact ⟨_, rfl, Int.emod_nonneg _ (by omega), Int.emod_lt_of_pos _ h0, ⟨_, _, _, rfl⟩⟩
    · have := Int.emod_nonneg (((c + 7919 * (b + 1) + 13) % 2147483647) * ((c + 7919 * (b + 1) + 13) % 2147483647 + 48271)) (b := 2147483629) (by decide)
      have := Int.emod_lt_of_pos (((c + 7919 * (b + 1) + 13) % 2147483647) * ((c + 7919 * (b + 1) + 13) % 2147483647 + 48271)) (b := 2147483629) (by decide)
      unfold sm
      simp
      omega
    · have := Int.emod_nonneg (c + 7919 * (b + 1) + 13) (b := 2147483647) (by decide)
      have := Int.emod_lt_of_pos (c + 7919 * (b + 1) + 13) (b := 2147483647) (by decide)
      unfold sm
      simp
      omega
theorem stream_wp {xs : List Int} {k : Int} (hk : 0 ≤ k) : Wp (M_l_stream xs k) Stm := by
  unfold M_l_stream
  simp only [Option.bind_some]
  by_cases h : k < (xs.length : Int)
  · rw [if_pos (by simpa using h), atI_get hk (by omega)]
    simp only [Option.bind_some]
    rw [gp]
    · exact ⟨_, rfl, _, _, _, rfl⟩
    · rw [Bool.or_eq_true]
      right
      split <;> rfl
  · rw [if_neg (by simpa using h)]
    simp only [Option.bind_some]
    rw [gp]
    · exact ⟨_, rfl, _, _, _, rfl⟩
    · rfl
theorem wp_next {β : Type} {s : List Int} {n : Int} {k : Int × List Int → Option β} {Q : β → Prop} (hs : Stm s) (h0 : 0 < n) (h1 : n < 1073741824) (f : ∀ r t, 0 ≤ r → r < n → Stm t → Wp (k (r, t)) Q) : Wp ((M_l_next s n).bind k) Q :=
  wp_then (next_wp hs h0 h1) fun r h => f r.1 r.2 h.1 h.2.1 h.2.2
theorem wp_stream {β : Type} {xs : List Int} {i : Int} {k : List Int → Option β} {Q : β → Prop} (hk : 0 ≤ i) (f : ∀ t, Stm t → Wp (k t) Q) : Wp ((M_l_stream xs i).bind k) Q :=
  wp_then (stream_wp hk) f
theorem wp_let {α β : Type} {a : α} {k : α → Option β} {Q : β → Prop} (h : Wp (k a) Q) : Wp ((some a).bind k) Q := h
theorem sm_lt {i : Int} (h1 : -(2 ^ 64) < i) (h2 : i < 2 ^ 64) : sm i = true := by unfold sm; rw [Bool.and_eq_true]; exact ⟨decide_eq_true h1, decide_eq_true h2⟩
theorem rg_lt {i : Int} (h1 : -1000000 ≤ i) (h2 : i ≤ 16777216) : rg i = true := by unfold rg; rw [Bool.and_eq_true]; exact ⟨decide_eq_true (by omega), decide_eq_true h2⟩
theorem len_app (x y : Str) : (x ++ y).length = x.length + y.length := by
  show (x.cps ++ y.cps).size = x.cps.size + y.cps.size
  exact Array.size_append ..
end My
end
section
namespace My
open PySem PySem.Spec PyProof.Rows L2 L3
theorem len1 (c : Nat) : (⟨#[c]⟩ : Str).length = 1 := rfl
theorem cps_app (x y : Str) : (x ++ y).cps.toList = x.cps.toList ++ y.cps.toList := by
  show (x.cps ++ y.cps).toList = _
  exact Array.toList_append
theorem strOk_of {x : Str} (h : ∀ c ∈ x.cps.toList, c < 1000) : strOk x = true := by
  unfold strOk PyData.strOk
  rw [← Array.all_toList, List.all_eq_true]
  intro c hc
  have := h c hc
  exact decide_eq_true (by omega)
section
variable {κ α : Type} [DecidableEq κ]
def putAll (s : List (κ × α)) (ks : List κ) (f : κ → α) : List (κ × α) := ks.foldl (fun s k => dput s k (f k)) s
theorem putAll_app {s : List (κ × α)} {ks js : List κ} {f : κ → α} : putAll s (ks ++ js) f = putAll (putAll s ks f) js f := List.foldl_append
theorem putAll_one {s : List (κ × α)} {ks : List κ} {k : κ} {f : κ → α} : putAll s (ks ++ [k]) f = dput (putAll s ks f) k (f k) := putAll_app
theorem len_putAll {f : κ → α} : ∀ {ks : List κ} {s : List (κ × α)}, (putAll s ks f).length ≤ s.length + ks.length
  | [], s => Nat.le_refl _
  | k :: ks, s => by
    have h := len_putAll (f := f) (ks := ks) (s := dput s k (f k))
    have h2 := dput_len s k (f k)
    show (putAll (dput s k (f k)) ks f).length ≤ _
    rw [List.length_cons]
    omega
theorem putAll_new {f : κ → α} : ∀ {ks : List κ} {s : List (κ × α)}, ks.Nodup → (∀ k ∈ ks, k ∉ keys s) → putAll s ks f = s ++ ks.map fun k => (k, f k)
  | [], s, _, _ => by simp [putAll]
  | k :: ks, s, nd, h => by
    rw [List.nodup_cons] at nd
    show putAll (dput s k (f k)) ks f = _
    rw [putAll_new nd.2 fun j hj => ?_, dput_new (h k List.mem_cons_self), List.append_assoc]
    · rfl
    · rw [mem_keys_put]
      exact fun z => z.elim (h j (List.mem_cons_of_mem _ hj)) fun e => nd.1 (by rw [← e]; exact hj)
theorem get_del {d : List (κ × α)} {k j : κ} : dget (ddel d k) j = if j = k then none else dget d j := by
  unfold ddel
  induction d with
  | nil => simp [dget_nil]
  | cons p d ih =>
    rw [List.filter_cons]
    by_cases h : p.1 = k
    · rw [if_neg (by simp [h]), ih, dget_cons]
      by_cases e : j = k
      · rw [if_pos e, if_pos e]
      · rw [if_neg e, if_neg e, if_neg (fun z => e (by rw [← z, h]))]
    · rw [if_pos (by simp [h]), dget_cons, dget_cons, ih]
      by_cases e : j = k
      · rw [if_pos e, if_pos e, if_neg (fun z => h (by rw [z, e]))]
      · rw [if_neg e, if_neg e]
theorem keys_del {d : List (κ × α)} {k : κ} : keys (ddel d k) = (keys d).filter fun j => decide (j ≠ k) := by
  unfold ddel keys
  rw [List.filter_map]
  rfl
theorem nodup_del {d : List (κ × α)} {k : κ} (nd : (keys d).Nodup) : (keys (ddel d k)).Nodup := by
  rw [keys_del]
  exact nd.sublist List.filter_sublist
theorem keys_ext {d e : List (κ × α)} (h : ∀ k, dget d k = dget e k) (k : κ) : k ∈ keys d ↔ k ∈ keys e := by
  have h1 := @dget_none κ α _ k d
  have h2 := @dget_none κ α _ k e
  rw [h k] at h1
  have h3 := h1.symm.trans h2
  by_cases a : k ∈ keys d
  · by_cases b : k ∈ keys e
    · exact ⟨fun _ => b, fun _ => a⟩
    · exact absurd a (h3.mpr b)
  · exact ⟨fun z => absurd z a, fun z => absurd z (h3.mp a)⟩
theorem len_ext {d e : List (κ × α)} (nd : (keys d).Nodup) (ne : (keys e).Nodup) (h : ∀ k, dget d k = dget e k) : d.length = e.length := by
  have h1 := sub_len nd fun k hk => (keys_ext h k).mp hk
  have h2 := sub_len ne fun k hk => (keys_ext h k).mpr hk
  unfold keys at h1 h2
  rw [List.length_map, List.length_map] at h1 h2
  omega
theorem deqG_of {f : α → α → Bool} (hf : ∀ x, f x x = true) {d e : List (κ × α)} (nd : (keys d).Nodup) (ne : (keys e).Nodup) (h : ∀ k, dget d k = dget e k) : deqG f d e = true := by
  unfold deqG
  rw [len_ext nd ne h, Bool.and_eq_true, List.all_eq_true]
  refine ⟨by simp, fun p hp => ?_⟩
  rw [← h, mem_dget nd hp]
  exact hf _
theorem dokG_of {f : α → α → Bool} (hf : ∀ x y, f x y = true) {d e : List (κ × α)} (nd : (keys d).Nodup) : dokG f d e = true := by
  unfold dokG
  rw [Bool.and_eq_true, List.all_eq_true]
  refine ⟨decide_eq_true nd, fun p hp => ?_⟩
  split
  · rfl
  · exact hf _ _
end
theorem okL {xs ys : List Int} : okG (dgL dgInt) xs ys = true := by
  unfold okG
  show (xs.all (fun _ => true) && ys.all fun _ => true) = true
  simp
section
variable {α S ρ δ : Type}
theorem forL_go {f : α → S → Option (Bo S (Tm S ρ))} {s : S} : ∀ {xs : List α}, (∀ x ∈ xs, f x s = some (.nx s)) → forL xs s f = some (.nx s)
  | [], _ => rfl
  | x :: xs, h => by
    show (f x s).bind _ = _
    rw [h x List.mem_cons_self]
    exact forL_go fun y hy => h y (List.mem_cons_of_mem _ hy)
theorem compM_map {f : α → S → Option (Option δ × S)} {s : S} {g : α → δ} {xs : List α} (h : ∀ x ∈ xs, f x s = some (some (g x), s)) : compM xs s f = some (xs.map g, s) := by
  rw [compM_pure (g := fun x => some (g x)) h, filterMap_some]
end
theorem cut_take {α : Type} {xs : List α} {i : Int} (h0 : 0 ≤ i) : cutL xs none (some i) = xs.take i.toNat := by
  unfold cutL
  have e1 : HT.sIx xs.length xs.length (some i) = min i.toNat xs.length := by
    unfold HT.sIx; simp only; rw [if_neg (by omega)]
  have e3 : HT.sIx xs.length 0 none = 0 := rfl
  rw [e1, e3, List.drop_zero, Nat.sub_zero]
  by_cases h : i.toNat ≤ xs.length
  · rw [Nat.min_eq_left h]
  · rw [Nat.min_eq_right (by omega), List.take_length, List.take_of_length_le (by omega)]
theorem cut_drop {α : Type} {xs : List α} {i : Int} (h0 : 0 ≤ i) : cutL xs (some i) none = xs.drop i.toNat := by
  unfold cutL
  have e2 : HT.sIx xs.length 0 (some i) = min i.toNat xs.length := by
    unfold HT.sIx; simp only; rw [if_neg (by omega)]
  have e4 : HT.sIx xs.length xs.length none = xs.length := rfl
  rw [e2, e4]
  by_cases h : i.toNat ≤ xs.length
  · rw [Nat.min_eq_left h, List.take_of_length_le (by rw [List.length_drop]; omega)]
  · rw [Nat.min_eq_right (by omega), List.drop_length, List.drop_of_length_le (by omega), List.take_nil]
theorem nd_split {α : Type} {xs p t : List α} {k : α} (nd : xs.Nodup) (e : xs = p ++ k :: t) : k ∉ p := fun z => by
  rw [e] at nd
  exact (List.nodup_append.mp nd).2.2 k z k List.mem_cons_self rfl
theorem len_split {α : Type} {xs p t : List α} {k : α} (e : xs = p ++ k :: t) : p.length < xs.length := by
  rw [e, List.length_append, List.length_cons]; omega
def getB (b : Box) (k : Str) : List Int := (dget b k).getD []
theorem dget_B {b : Box} {k : Str} (h : k ∈ keys b) : dget b k = some (getB b k) := by
  obtain ⟨v, e⟩ := dget_some h
  unfold getB
  rw [e]; rfl
theorem map_self {d : Box} (nd : (keys d).Nodup) : (keys d).map (fun k => (k, getB d k)) = d := by
  unfold keys
  rw [List.map_map]
  conv => rhs; rw [← List.map_id d]
  apply List.map_congr_left
  intro p hp
  show (p.1, getB d p.1) = p
  unfold getB
  rw [mem_dget nd (show (p.1, p.2) ∈ d from hp)]
  rfl
theorem copy_self {d : Box} (nd : (keys d).Nodup) : putAll [] (keys d) (getB d) = d := by
  rw [putAll_new nd fun k _ h => absurd h List.not_mem_nil, map_self nd, List.nil_append]
theorem keys_len {κ α : Type} (d : List (κ × α)) : (keys d).length = d.length := List.length_map _
structure Side (x : List Int) : Prop where
  lt : x.Pairwise (· < ·)
  ln : x.length ≤ 1000
theorem Side.nil : Side [] := ⟨List.Pairwise.nil, Nat.zero_le _⟩
theorem Side.sub {x y : List Int} (h : Side x) (s : y.Sublist x) : Side y := ⟨h.lt.sublist s, Nat.le_trans s.length_le h.ln⟩
theorem Side.filter {x : List Int} (h : Side x) (p : Int → Bool) : Side (x.filter p) := h.sub List.filter_sublist
structure BoxOk (b : Box) : Prop where
  nd : (keys b).Nodup
  sd : ∀ k x, dget b k = some x → Side x
theorem BoxOk.get {b : Box} (h : BoxOk b) (k : Str) : Side (getB b k) := by
  unfold getB
  cases e : dget b k with
  | none => exact Side.nil
  | some x => exact h.sd k x e
theorem BoxOk.nil : BoxOk [] := ⟨List.nodup_nil, fun k x h => by rw [dget_nil] at h; cases h⟩
theorem BoxOk.put {b : Box} (h : BoxOk b) {k : Str} {x : List Int} (s : Side x) : BoxOk (dput b k x) := ⟨nodup_put h.nd, fun j y e => by
  rw [get_put] at e
  split at e
  · cases e; exact s
  · exact h.sd j y e⟩
theorem BoxOk.putAll {f : Str → List Int} : ∀ {ks : List Str} {b : Box}, BoxOk b → (∀ k ∈ ks, Side (f k)) → BoxOk (putAll b ks f)
  | [], _, h, _ => h
  | k :: ks, b, h, s => BoxOk.putAll (ks := ks) (b := dput b k (f k)) (h.put (s k List.mem_cons_self)) fun j hj => s j (List.mem_cons_of_mem _ hj)
theorem BoxOk.del {b : Box} (h : BoxOk b) (k : Str) : BoxOk (ddel b k) := ⟨nodup_del h.nd, fun j y e => by
  rw [get_del] at e
  split at e
  · cases e
  · exact h.sd j y e⟩
theorem rngD_split {lo : Int} {n : Nat} {p t : List Int} {x : Int} (h : rngD lo n = p ++ x :: t) : x = lo - p.length ∧ p.length < n := by
  have hl := congrArg List.length h
  unfold rngD at hl
  rw [List.length_map, List.length_range, List.length_append, List.length_cons] at hl
  have e := congrArg (fun l => l[p.length]?) h
  simp only [List.getElem?_append_right (Nat.le_refl _), Nat.sub_self, List.getElem?_cons_zero] at e
  unfold rngD at e
  rw [List.getElem?_map, List.getElem?_range (by omega)] at e
  simp only [Option.map_some, Option.some.injEq] at e
  exact ⟨e.symm, by omega⟩
theorem copied_ok {d : Box} (nd : (keys d).Nodup) (hl : d.length < 1000) : M_l_copied d = some d := by
  have hz := sz
  apply wp_is
  unfold M_l_copied
  refine wp_let (wp_bind (wp_for (fun p s => s = putAll [] p (getB d)) rfl ?_ fun s hs => wp_some (by rw [hs, copy_self nd])))
  rintro p k t s e rfl
  have hl2 := congrArg List.length e
  rw [keys_len, List.length_append] at hl2
  have := len_putAll (s := []) (ks := p) (f := getB d)
  refine wp_eq (dget_B (mem_split e)) (wp_grd (by rw [List.length_nil] at this; omega) (wp_some ?_))
  rw [putAll_one]
theorem leS_of_lt {x y : Str} (h : ltS x y = true) : leS x y = true := by
  rw [ltS_le, Bool.not_eq_true'] at h
  have := leS_tot x y
  rw [h, Bool.or_false] at this
  exact this
theorem ltS_tr {x y z : Str} (h1 : ltS x y = true) (h2 : ltS y z = true) : ltS x z = true := by
  rw [ltS_le, Bool.not_eq_true', Bool.eq_false_iff] at h2 ⊢
  intro h
  exact h2 (leS_tr h (leS_of_lt h1))
theorem ltS_irr (x : Str) : ltS x x = false := by
  rw [ltS_le]
  have := leS_tot x x
  rw [Bool.or_self] at this
  rw [this]; rfl
theorem ltS_tri {x y : Str} (h : ltS x y = false) (hn : x ≠ y) : ltS y x = true := by
  rw [ltS_le, Bool.not_eq_false'] at h
  rw [ltS_le, Bool.not_eq_true', Bool.eq_false_iff]
  intro h2
  exact hn (leS_as h2 h)
def Asc (xs : List Str) : Prop := xs.Pairwise fun a b => ltS a b = true
theorem Asc.nd {xs : List Str} (h : Asc xs) : xs.Nodup := h.imp fun {a b} h e => by rw [e, ltS_irr] at h; cases h
theorem Asc.le {xs : List Str} (h : Asc xs) : xs.Pairwise fun a b => leS a b = true := h.imp fun h => leS_of_lt h
theorem asc_eq {xs ys : List Str} (h : Asc xs) (nd : ys.Nodup) (hm : ∀ x, x ∈ xs ↔ x ∈ ys) : srtS ys = xs :=
  sortedS_eq ((srtS_perm ys).trans ((List.perm_ext_iff_of_nodup nd h.nd).mpr fun x => (hm x).symm)) (srtS_le ys) h.le
def cntS (n : Str) (xs : List Str) : Nat := (xs.filter fun x => ltS x n).length
theorem cnt_none {n : Str} {x : Str} {xs : List Str} (h : Asc (x :: xs)) (hx : ltS x n = false) : ∀ y ∈ x :: xs, ltS y n = false := fun y hy => by
  rcases List.mem_cons.mp hy with e | hy
  · rw [e]; exact hx
  · have := (List.pairwise_cons.mp h).1 y hy
    rw [Bool.eq_false_iff] at hx ⊢
    exact fun z => hx (ltS_tr this z)
theorem filter_none {α : Type} {p : α → Bool} {xs : List α} (h : ∀ x ∈ xs, p x = false) : xs.filter p = [] := List.filter_eq_nil_iff.mpr fun x hx => by rw [h x hx]; decide
theorem take_cnt {n : Str} : ∀ {xs : List Str}, Asc xs → xs.take (cntS n xs) = xs.filter fun x => ltS x n
  | [], _ => rfl
  | x :: xs, h => by
    unfold cntS
    cases hx : ltS x n with
    | true =>
      rw [List.filter_cons_of_pos (p := fun x => ltS x n) hx, List.length_cons, List.take_succ_cons]
      congr 1
      exact take_cnt (List.pairwise_cons.mp h).2
    | false => rw [filter_none (cnt_none h hx)]; rfl
theorem drop_cnt {n : Str} : ∀ {xs : List Str}, Asc xs → ∀ y ∈ xs.drop (cntS n xs), ltS y n = false
  | [], _ => fun y hy => by rw [List.drop_nil] at hy; cases hy
  | x :: xs, h => by
    unfold cntS
    cases hx : ltS x n with
    | true =>
      rw [List.filter_cons_of_pos (p := fun x => ltS x n) hx, List.length_cons, List.drop_succ_cons]
      exact drop_cnt (List.pairwise_cons.mp h).2
    | false =>
      rw [filter_none (cnt_none h hx)]
      exact cnt_none h hx
theorem asc_ins {n : Str} {xs : List Str} (h : Asc xs) (hn : n ∉ xs) : Asc ((xs.take (cntS n xs) ++ [n]) ++ xs.drop (cntS n xs)) ∧ (∀ x, x ∈ (xs.take (cntS n xs) ++ [n]) ++ xs.drop (cntS n xs) ↔ x ∈ xs ∨ x = n) ∧ ((xs.take (cntS n xs) ++ [n]) ++ xs.drop (cntS n xs)).length = xs.length + 1 := by
  have h1 : ∀ y ∈ xs.take (cntS n xs), ltS y n = true := fun y hy => by rw [take_cnt h] at hy; exact (List.mem_filter.mp hy).2
  have h2 : ∀ y ∈ xs.drop (cntS n xs), ltS n y = true := fun y hy => ltS_tri (drop_cnt h y hy) fun e => hn (by rw [← e]; exact List.mem_of_mem_drop hy)
  have hs : Asc (xs.take (cntS n xs) ++ xs.drop (cntS n xs)) := by rw [List.take_append_drop]; exact h
  obtain ⟨s1, s2, s3⟩ := List.pairwise_append.mp hs
  refine ⟨List.pairwise_append.mpr ⟨List.pairwise_append.mpr ⟨s1, List.pairwise_singleton _ _, fun a ha b hb => by rw [List.mem_singleton.mp hb]; exact h1 a ha⟩, s2, fun a ha b hb => ?_⟩, fun x => ?_, ?_⟩
  · rcases List.mem_append.mp ha with ha | ha
    · exact s3 a ha b hb
    · rw [List.mem_singleton.mp ha]; exact h2 b hb
  · have e : x ∈ xs ↔ x ∈ xs.take (cntS n xs) ∨ x ∈ xs.drop (cntS n xs) := by rw [← List.mem_append, List.take_append_drop]
    rw [List.mem_append, List.mem_append, List.mem_singleton, e]
    constructor
    · rintro ((h | h) | h)
      · exact .inl (.inl h)
      · exact .inr h
      · exact .inl (.inr h)
    · rintro ((h | h) | h)
      · exact .inl (.inl h)
      · exact .inr h
      · exact .inl (.inr h)
  · have := congrArg List.length (List.take_append_drop (cntS n xs) xs)
    rw [List.length_append] at this
    rw [List.length_append, List.length_append, List.length_singleton]; omega
theorem asc_wp {xs : List Str} (nd : xs.Nodup) (hl : xs.length < 1000) : Wp (M_l_ascending xs) fun r => Asc r ∧ (∀ x, x ∈ r ↔ x ∈ xs) ∧ r.length = xs.length := by
  have hz := sz
  unfold M_l_ascending
  refine wp_let (wp_bind (wp_for (fun p (s : List Str) => Asc s ∧ (∀ x, x ∈ s ↔ x ∈ p) ∧ s.length = p.length) ⟨List.Pairwise.nil, (fun _ => Iff.rfl), rfl⟩ ?_ fun s h => wp_some h))
  rintro p n t s e ⟨h1, h2, h3⟩
  have hn : n ∉ s := fun z => nd_split nd e ((h2 n).mp z)
  have hp := len_split e
  refine wp_let (wp_bind (wp_for (fun q (c : Int) => c = (cntS n q : Nat)) rfl ?_ ?_))
  · rintro q y u c eq rfl
    have ec : (cntS n (q ++ [y]) : Nat) = cntS n q + if ltS y n = true then 1 else 0 := by
      unfold cntS
      rw [List.filter_append, List.length_append]
      cases hy : ltS y n with
      | true => rw [List.filter_cons_of_pos (p := fun x => ltS x n) hy]; rfl
      | false => rw [List.filter_cons_of_neg (p := fun x => ltS x n) (by rw [hy]; decide)]; rfl
    rw [ec]
    refine wp_bind (wp_ite (fun z => wp_let (wp_some (wp_some ?_))) fun z => wp_some (wp_some ?_))
    · rw [if_pos z]; rfl
    · rw [if_neg z]; rfl
  · rintro c rfl
    rw [cut_take (by omega), cut_drop (by omega), Int.toNat_natCast]
    obtain ⟨a1, a2, a3⟩ := asc_ins (n := n) h1 hn
    rw [List.length_append] at a3
    refine wp_grd (by have := a3; rw [List.length_append] at this; omega) (wp_grd (by omega) (wp_let (wp_some ⟨a1, fun x => ?_, ?_⟩)))
    · rw [a2, h2, List.mem_append, List.mem_singleton]
    · rw [List.length_append, a3, List.length_append, List.length_singleton, h3]
theorem dedup_wp {xs : List Str} (hl : xs.length < 1000) : Wp (forS xs ([] : List Str) fun x277 s276 => (if (!decide (x277 ∈ s276)) = true then grd (s276.length < sizeLine) (some (s276 ++ [x277])) else some s276).bind fun s280 => some s280) fun r => r.Nodup ∧ (∀ x, x ∈ r ↔ x ∈ xs) ∧ r.length ≤ xs.length := by
  have hz := sz
  refine wp_for (fun p (s : List Str) => s.Nodup ∧ (∀ x, x ∈ s ↔ x ∈ p) ∧ s.length ≤ p.length) ⟨List.nodup_nil, (fun _ => Iff.rfl), Nat.le_refl _⟩ ?_ fun s h => h
  rintro p n t s e ⟨h1, h2, h3⟩
  have hp := len_split e
  refine wp_bind (wp_ite (fun z => wp_grd (by omega) (wp_some (wp_some ⟨?_, fun x => ?_, ?_⟩))) fun z => wp_some (wp_some ⟨h1, fun x => ?_, ?_⟩))
  · have z : n ∉ s := by simpa using z
    exact List.nodup_append.mpr ⟨h1, List.nodup_cons.mpr ⟨List.not_mem_nil, List.nodup_nil⟩, fun a ha b hb e => z (by rw [List.mem_singleton.mp hb] at e; rw [← e]; exact ha)⟩
  · rw [List.mem_append, List.mem_append, h2]
  · rw [List.length_append, List.length_append]
    show s.length + 1 ≤ p.length + 1
    omega
  · have z : n ∈ s := by simpa using z
    rw [List.mem_append, h2]
    constructor
    · exact .inl
    · rintro (h | h)
      · exact h
      · rw [List.mem_singleton.mp h]; exact (h2 n).mp z
  · rw [List.length_append]; omega
end My
end
section
namespace My
open PySem PySem.Spec PyProof.Rows L2 L3
def vL (b : Box) (n : Str) : Ln := .inl ("void", b, n)
def rL (b : Box) (k : Str) (c : CT) : Ln := .inr (.inl ("rule", b, k, c))
def jL (b : Box) (n : Str) (i j : Int) : Ln := .inr (.inr ("join", b, n, i, j))
structure Bk (b : Box) : Prop where
  nd : (keys b).Nodup
  ln : b.length ≤ 10
def ek : EL → Prop
  | .inr (.inl s) => strOk s = true
  | _ => True
def Cw (c : CT) : Prop := (∃ n, strOk n = true ∧ c = (("empty" : Str), (.inl n : Str ⊕ List EL))) ∨ (∃ L : List (List Int), c = (("layers" : Str), (.inr (L.map fun l => .inr (.inr l)) : Str ⊕ List EL))) ∨ (∃ (w : Str) (l : List EL), w ≠ "empty" ∧ w ≠ "layers" ∧ strOk w = true ∧ (∀ x ∈ l, ek x) ∧ c = (w, .inr l))
def Lw (k : Nat) (l : Ln) : Prop := (∃ b n, Bk b ∧ strOk n = true ∧ l = vL b n) ∨ (∃ b key c, Bk b ∧ strOk key = true ∧ Cw c ∧ l = rL b key c) ∨ (∃ b n i j, Bk b ∧ strOk n = true ∧ (1 ≤ i ∧ i ≤ (k : Int)) ∧ (1 ≤ j ∧ j ≤ (k : Int)) ∧ l = jL b n i j)
structure Lg (Ls : List Ln) : Prop where
  ln : Ls.length < 5000
  wf : ∀ (k : Nat) l, Ls[k]? = some l → Lw k l
def Rm (R : List (List Str)) : Ln → Str → Prop
  | .inl _, _ => False
  | .inr (.inl (_, _, key, _)), x => x = key
  | .inr (.inr (_, _, _, i, j)), x => x ∈ R.getD (i - 1).toNat [] ∨ x ∈ R.getD (j - 1).toNat []
structure Rs (Ls : List Ln) (R : List (List Str)) : Prop where
  ex : ∀ (k : Nat) l, Ls[k]? = some l → ∃ r : List Str, R[k]? = some r ∧ Asc r ∧ r.length < 64 ∧ ∀ x, x ∈ r ↔ Rm R l x
inductive Us (Ls : List Ln) (k : Nat) : Nat → Prop
  | rf : Us Ls k k
  | j1 {m : Nat} {b : Box} {n : Str} {i j : Int} : Us Ls k m → Ls[m]? = some (jL b n i j) → Us Ls k (i - 1).toNat
  | j2 {m : Nat} {b : Box} {n : Str} {i j : Int} : Us Ls k m → Ls[m]? = some (jL b n i j) → Us Ls k (j - 1).toNat
theorem ixN_at {n : Nat} {i : Int} (h0 : 0 ≤ i) (h1 : i < n) : ixN n i = some i.toNat := by
  unfold ixN
  rw [if_pos h0, if_pos (by omega)]
theorem getD_set {α : Type} {xs : List α} {i j : Nat} {v d : α} (h : i < xs.length) : (xs.set i v).getD j d = if j = i then v else xs.getD j d := by
  rw [List.getD_eq_getElem?_getD, List.getD_eq_getElem?_getD, List.getElem?_set]
  by_cases e : i = j
  · rw [if_pos e, if_pos (by omega), if_pos e.symm]; rfl
  · rw [if_neg e, if_neg (fun z => e z.symm)]
theorem repL_one {n : Nat} : repL [false] (n : Int) = List.replicate n false := by
  unfold repL
  rw [Int.toNat_natCast]
  induction n with
  | zero => rfl
  | succ n ih => rw [List.replicate_succ, List.flatten_cons, ih]; rfl
theorem atI_of2 {α : Type} {xs : List α} {x : Int} {y : α} (h0 : 0 ≤ x) (h : xs[x.toNat]? = some y) : atI xs x = some y := by
  have hl : x.toNat < xs.length := by
    by_cases hl : x.toNat < xs.length
    · exact hl
    · rw [List.getElem?_eq_none (by omega)] at h; cases h
  rw [atI_get h0 hl, ← h, List.getElem?_eq_getElem hl]
structure Mk (Ls : List Ln) (k : Nat) (x : Nat) (s : List Bool) : Prop where
  ln : s.length = Ls.length
  kk : s.getD k false = true
  us : ∀ m, s.getD m false = true → Us Ls k m ∧ m ≤ k
  cl : ∀ m b n i j, x ≤ m → s.getD m false = true → Ls[m]? = some (jL b n i j) → s.getD (i - 1).toNat false = true ∧ s.getD (j - 1).toNat false = true
theorem marks_ok {Ls : List Ln} {k : Nat} (hL : Lg Ls) (hk : k < Ls.length) : ∃ s : List Bool, M_used_marks Ls ((k : Int) + 1) = some (.ok s) ∧ s.length = Ls.length ∧ ∀ m, s.getD m false = true ↔ Us Ls k m := by
  have hz := sz
  have hl := hL.ln
  have ek : ((k : Int) + 1) - 1 = (k : Int) := by omega
  suffices h : Wp (M_used_marks Ls ((k : Int) + 1)) fun r => ∃ s : List Bool, r = .ok s ∧ Mk Ls k 0 s by
    obtain ⟨r, e, s, rfl, hs⟩ := h
    refine ⟨s, e, hs.ln, fun m => ⟨fun h => (hs.us m h).1, fun h => ?_⟩⟩
    induction h with
    | rf => exact hs.kk
    | j1 _ hm ih => exact (hs.cl _ _ _ _ _ (Nat.zero_le _) ih hm).1
    | j2 _ hm ih => exact (hs.cl _ _ _ _ _ (Nat.zero_le _) ih hm).2
  unfold M_used_marks
  rw [if_neg (by simp; omega), ek]
  refine wp_grd ?_ (wp_let ?_)
  · unfold repOkL
    simp only [List.length_singleton, Nat.one_mul, Int.toNat_natCast, Bool.and_eq_true, decide_eq_true_eq]
    omega
  rw [repL_one, List.length_replicate]
  have ik : ixN Ls.length (k : Int) = some k := by rw [ixN_at (by omega) (by omega), Int.toNat_natCast]
  refine wp_eq ik (wp_grd ?_ ?_)
  · unfold rg2
    simp only [Bool.and_eq_true, decide_eq_true_eq]
    omega
  rw [ik, Option.getD_some]
  have en : ((k : Int) - -(1 : Int)).toNat = k + 1 := by omega
  rw [en]
  refine wp_bind (wp_for (fun p (s : List Bool) => Mk Ls k (k + 1 - p.length) s) ⟨by rw [List.length_set, List.length_replicate], ?_, fun m hm => ?_, fun m b n i j hm h => ?_⟩ ?_ fun s hs => wp_some ⟨s, rfl, ?_⟩)
  · rw [getD_set (by rw [List.length_replicate]; exact hk), if_pos rfl]
  · rw [getD_set (by rw [List.length_replicate]; exact hk)] at hm
    by_cases e : m = k
    · rw [e]; exact ⟨.rf, Nat.le_refl _⟩
    · rw [if_neg e, List.getD_eq_getElem?_getD, List.getElem?_replicate] at hm
      split at hm <;> cases hm
  · rw [getD_set (by rw [List.length_replicate]; exact hk)] at h
    have hm : k + 1 - 0 ≤ m := hm
    rw [if_neg (by omega), List.getD_eq_getElem?_getD, List.getElem?_replicate] at h
    split at h <;> cases h
  · rintro p x t s e hs
    obtain ⟨ex, hp⟩ := rngD_split e
    have hx : x.toNat = k - p.length := by omega
    have hxl : x.toNat < Ls.length := by omega
    have hpl : k + 1 - (p ++ [x]).length = x.toNat := by rw [List.length_append, List.length_singleton]; omega
    rw [hpl]
    have e1 : Ls[x.toNat]? = some Ls[x.toNat] := List.getElem?_eq_getElem hxl
    generalize Ls[x.toNat] = l at e1
    have e2 : atI s x = some (s.getD x.toNat false) := by
      rw [atI_get (by omega) (by rw [hs.ln]; exact hxl), List.getD_eq_getElem?_getD, List.getElem?_eq_getElem (by rw [hs.ln]; exact hxl)]; rfl
    refine wp_eq (atI_of2 (by omega) e1) (wp_let (wp_eq e2 ?_))
    have keep : (∀ b n i j, l ≠ jL b n i j) ∨ s.getD x.toNat false = false → Mk Ls k x.toNat s := fun h => ⟨hs.ln, hs.kk, hs.us, fun m b n i j hm hmk hj => by
      by_cases em : m = x.toNat
      · rcases h with h | h
        · rw [em, e1] at hj; cases hj; exact absurd rfl (h b n i j)
        · rw [em, h] at hmk; cases hmk
      · exact hs.cl m b n i j (by omega) hmk hj⟩
    cases hmk : s.getD x.toNat false with
    | false => exact wp_let (wp_some (keep (.inr hmk)))
    | true =>
      rw [if_pos rfl]
      rcases hL.wf _ _ e1 with ⟨b, n, _, _, rfl⟩ | ⟨b, key, c, _, _, _, rfl⟩ | ⟨b, n, i, j, _, _, ⟨i1, i2⟩, ⟨j1, j2⟩, rfl⟩
      · exact wp_eq (a := (false, ())) (by rfl) (wp_some (keep (.inl fun _ _ _ _ h => by cases h)))
      · exact wp_eq (a := (false, ())) (by rfl) (wp_some (keep (.inl fun _ _ _ _ h => by cases h)))
      · refine wp_eq (a := (true, ())) (by rfl) ?_
        rw [if_pos rfl]
        have hil : (i - 1).toNat < s.length := by rw [hs.ln]; omega
        have hjl : (j - 1).toNat < s.length := by rw [hs.ln]; omega
        have x1 : ixN s.length (i - 1) = some (i - 1).toNat := ixN_at (by omega) (by omega)
        refine wp_bind (wp_eq (a := i) rfl (wp_eq x1 (wp_eq (a := j) rfl ?_)))
        rw [x1, Option.getD_some]
        have x2 : ixN (s.set (i - 1).toNat true).length (j - 1) = some (j - 1).toNat := ixN_at (by omega) (by rw [List.length_set]; omega)
        refine wp_eq x2 (wp_some (wp_some ?_))
        rw [x2, Option.getD_some]
        have hg : ∀ m, ((s.set (i - 1).toNat true).set (j - 1).toNat true).getD m false = if m = (j - 1).toNat then true else if m = (i - 1).toNat then true else s.getD m false := fun m => by
          rw [getD_set (by rw [List.length_set]; exact hjl), getD_set hil]
        have hu := hs.us _ hmk
        refine ⟨by rw [List.length_set, List.length_set, hs.ln], ?_, fun m hm => ?_, fun m b' n' i' j' hm hm2 hj => ?_⟩
        · rw [hg, hs.kk]
          split
          · rfl
          · split <;> rfl
        · rw [hg] at hm
          by_cases c1 : m = (j - 1).toNat
          · rw [c1]; exact ⟨.j2 hu.1 e1, by omega⟩
          · rw [if_neg c1] at hm
            by_cases c2 : m = (i - 1).toNat
            · rw [c2]; exact ⟨.j1 hu.1 e1, by omega⟩
            · rw [if_neg c2] at hm; exact hs.us m hm
        · by_cases em : m = x.toNat
          · rw [em, e1] at hj
            cases hj
            rw [hg, hg, if_pos (rfl : (j - 1).toNat = (j - 1).toNat)]
            refine ⟨?_, rfl⟩
            split
            · rfl
            · rw [if_pos rfl]
          · have h3 : s.getD m false = true := by
              rw [hg, if_neg (by omega), if_neg (by omega)] at hm2
              exact hm2
            obtain ⟨q1, q2⟩ := hs.cl m b' n' i' j' (by omega) h3 hj
            rw [hg, hg, q1, q2]
            constructor
            · split
              · rfl
              · split <;> rfl
            · split
              · rfl
              · split <;> rfl
  · rw [rngD_len, Nat.sub_self] at hs
    exact hs
end My
end
section
namespace My
open PySem PySem.Spec PyProof.Rows L2 L3
theorem lw_j {k : Nat} {b : Box} {n : Str} {i j : Int} (h : Lw k (jL b n i j)) : (1 ≤ i ∧ i ≤ (k : Int)) ∧ (1 ≤ j ∧ j ≤ (k : Int)) := by
  rcases h with ⟨_, _, _, _, e⟩ | ⟨_, _, _, _, _, _, e⟩ | ⟨_, _, _, _, _, _, h1, h2, e⟩
  · cases e
  · cases e
  · cases e; exact ⟨h1, h2⟩
theorem us_le {Ls : List Ln} {k m : Nat} (hL : Lg Ls) (h : Us Ls k m) : m ≤ k := by
  induction h with
  | rf => exact Nat.le_refl _
  | j1 _ hm ih => have := lw_j (hL.wf _ _ hm); omega
  | j2 _ hm ih => have := lw_j (hL.wf _ _ hm); omega
section
variable {Ls : List Ln} {R : List (List Str)} {k : Nat}
theorem rs_get {m : Nat} {l : Ln} (hR : Rs Ls R) (h : Ls[m]? = some l) : Asc (R.getD m []) ∧ (R.getD m []).length < 64 ∧ ∀ x, x ∈ R.getD m [] ↔ Rm R l x := by
  obtain ⟨r, e, h1, h2, h3⟩ := hR.ex m l h
  have : R.getD m [] = r := by rw [List.getD_eq_getElem?_getD, e]; rfl
  rw [this]
  exact ⟨h1, h2, h3⟩
theorem us_sub (hR : Rs Ls R) {m : Nat} (h : Us Ls k m) : ∀ x ∈ R.getD m [], x ∈ R.getD k [] := by
  induction h with
  | rf => exact fun _ h => h
  | j1 _ hm ih => exact fun x hx => ih x (((rs_get hR hm).2.2 x).mpr (.inl hx))
  | j2 _ hm ih => exact fun x hx => ih x (((rs_get hR hm).2.2 x).mpr (.inr hx))
theorem us_rule (hL : Lg Ls) (hR : Rs Ls R) (hk : k < Ls.length) {x : Str} : ∀ m, Us Ls k m → x ∈ R.getD m [] → ∃ m' b c, Us Ls k m' ∧ Ls[m']? = some (rL b x c) := by
  intro m
  induction m using Nat.strongRecOn with
  | _ m ih =>
    intro hu hx
    have hm := us_le hL hu
    have e1 : Ls[m]? = some (Ls[m]'(by omega)) := List.getElem?_eq_getElem (by omega)
    generalize Ls[m]'(by omega) = l at e1
    have hr := ((rs_get hR e1).2.2 x).mp hx
    rcases hL.wf _ _ e1 with ⟨b, n, _, _, rfl⟩ | ⟨b, key, c, _, _, _, rfl⟩ | ⟨b, n, i, j, _, _, h1, h2, rfl⟩
    · exact False.elim hr
    · have hr : x = key := hr
      subst hr
      exact ⟨m, b, c, hu, e1⟩
    · rcases (hr : x ∈ R.getD (i - 1).toNat [] ∨ x ∈ R.getD (j - 1).toNat []) with h | h
      · exact ih _ (by omega) (.j1 hu e1) h
      · exact ih _ (by omega) (.j2 hu e1) h
theorem wp_xk {ε ρ γ : Type} {ι : ε → γ} {f : ρ → Option γ} {r : ρ} {Q : γ → Prop} (h : Wp (f r) Q) : Wp (xK ι f (.ok r)) Q := h
theorem rests_ok (hL : Lg Ls) (hR : Rs Ls R) (hk : k < Ls.length) : M_rests_on Ls ((k : Int) + 1) = some (.ok (R.getD k [])) := by
  have hz := sz
  have hl := hL.ln
  obtain ⟨s, es, sl, su⟩ := marks_ok hL hk
  have ek : Ls[k]? = some Ls[k] := List.getElem?_eq_getElem hk
  obtain ⟨ra, rl, rm⟩ := rs_get hR ek
  apply wp_is
  unfold M_rests_on
  refine wp_eq es (wp_xk (wp_let (wp_let (wp_bind (wp_for (fun p (ks : List Str) => ks.Nodup ∧ (∀ x, x ∈ ks ↔ ∃ q ∈ p, q.2 = true ∧ ∃ b c, q.1 = rL b x c) ∧ ks.length ≤ p.length) ⟨List.nodup_nil, (fun x => ⟨(fun h => nomatch h), fun ⟨_, h, _⟩ => nomatch h⟩), Nat.le_refl _⟩ ?_ ?_)))))
  · rintro p ⟨l, mk⟩ t ks e ⟨h1, h2, h3⟩
    have hp := len_split e
    rw [List.length_zip] at hp
    have hm : l ∈ Ls := (List.of_mem_zip (mem_split e)).1
    obtain ⟨q, hq⟩ := List.mem_iff_getElem?.mp hm
    have keep : (mk = false ∨ ∀ b x c, l ≠ rL b x c) → ks.Nodup ∧ (∀ x, x ∈ ks ↔ ∃ q ∈ p ++ [(l, mk)], q.2 = true ∧ ∃ b c, q.1 = rL b x c) ∧ ks.length ≤ (p ++ [(l, mk)]).length := fun h => ⟨h1, fun x => by
      rw [h2]
      constructor
      · rintro ⟨q, hq, h⟩; exact ⟨q, List.mem_append_left _ hq, h⟩
      · rintro ⟨q, hq, hq2, b, c, hq3⟩
        rcases List.mem_append.mp hq with hq | hq
        · exact ⟨q, hq, hq2, b, c, hq3⟩
        · rw [List.mem_singleton.mp hq] at hq2 hq3
          rcases h with h | h
          · rw [show mk = true from hq2] at h; cases h
          · exact absurd hq3 (h b x c), by rw [List.length_append]; omega⟩
    cases mk with
    | false => exact wp_let (wp_some (keep (.inl rfl)))
    | true =>
      rcases hL.wf _ _ hq with ⟨b, n, _, _, rfl⟩ | ⟨b, key, c, _, _, _, rfl⟩ | ⟨b, n, i, j, _, _, _, _, rfl⟩
      · exact wp_eq (a := (false, ())) (by rfl) (wp_some (keep (.inr fun _ _ _ h => by cases h)))
      · refine wp_eq (a := (!decide (key ∈ ks), ())) (by rfl) ?_
        have nw : ∀ x, (∃ q ∈ p ++ [(rL b key c, true)], q.2 = true ∧ ∃ b c, q.1 = rL b x c) ↔ x ∈ ks ∨ x = key := fun x => by
          rw [h2]
          constructor
          · rintro ⟨q, hq, hq2, b', c', hq3⟩
            rcases List.mem_append.mp hq with hq | hq
            · exact .inl ⟨q, hq, hq2, b', c', hq3⟩
            · rw [List.mem_singleton.mp hq] at hq3
              have hq3 : rL b key c = rL b' x c' := hq3
              cases hq3
              exact .inr rfl
          · rintro (⟨q, hq, h⟩ | rfl)
            · exact ⟨q, List.mem_append_left _ hq, h⟩
            · exact ⟨_, List.mem_append_right _ (List.mem_singleton.mpr rfl), rfl, b, c, rfl⟩
        refine wp_bind (wp_ite (fun z => ?_) fun z => wp_some (wp_some ⟨h1, fun x => ?_, by rw [List.length_append]; omega⟩))
        · have z : key ∉ ks := by simpa using z
          refine wp_eq (a := key) rfl (wp_grd (by omega) (wp_some (wp_some ⟨?_, fun x => ?_, ?_⟩)))
          · exact List.nodup_append.mpr ⟨h1, List.nodup_cons.mpr ⟨List.not_mem_nil, List.nodup_nil⟩, fun a ha b hb e => z (by rw [List.mem_singleton.mp hb] at e; rw [← e]; exact ha)⟩
          · rw [nw, List.mem_append, List.mem_singleton]
          · rw [List.length_append, List.length_append]
            show ks.length + 1 ≤ p.length + 1
            omega
        · have z : key ∈ ks := by simpa using z
          rw [nw]
          constructor
          · exact .inl
          · rintro (h | h)
            · exact h
            · rw [h]; exact z
      · exact wp_eq (a := (false, ())) (by rfl) (wp_some (keep (.inr fun _ _ _ h => by cases h)))
  · rintro ks ⟨h1, h2, h3⟩
    have hmem : ∀ x, x ∈ R.getD k [] ↔ x ∈ ks := fun x => by
      rw [h2]
      constructor
      · intro hx
        obtain ⟨m, b, c, hu, hm⟩ := us_rule hL hR hk k .rf hx
        have hs := (su m).mpr hu
        have hml : m < Ls.length := by
          by_cases h : m < Ls.length
          · exact h
          · rw [List.getElem?_eq_none (by omega)] at hm; cases hm
        refine ⟨(rL b x c, true), List.mem_iff_getElem?.mpr ⟨m, ?_⟩, rfl, b, c, rfl⟩
        rw [List.getElem?_zip_eq_some]
        refine ⟨hm, ?_⟩
        rw [List.getD_eq_getElem?_getD, List.getElem?_eq_getElem (by omega)] at hs
        rw [List.getElem?_eq_getElem (by omega)]
        exact congrArg some hs
      · rintro ⟨q, hq, hq2, b, c, hq3⟩
        obtain ⟨m, hm⟩ := List.mem_iff_getElem?.mp hq
        rw [List.getElem?_zip_eq_some] at hm
        obtain ⟨m1, m2⟩ := hm
        rw [hq3] at m1
        rw [hq2] at m2
        have hu := (su m).mp (by rw [List.getD_eq_getElem?_getD, m2]; rfl)
        exact us_sub hR hu x (((rs_get hR m1).2.2 x).mpr rfl)
    have hlen := sub_len h1 (ys := R.getD k []) fun x hx => (hmem x).mpr hx
    refine wp_grd (by omega) (wp_some ?_)
    rw [asc_eq ra h1 hmem]
theorem same_ok {xs : List Str} (hl : xs.length < 1000) : M_l_same_words xs xs = some true := by
  unfold M_l_same_words
  rw [if_neg (by simp), gp (rg_lt (by omega) (by omega)), forL_go (s := ()) fun x hx => ?_]
  · rfl
  · have hx := rngL_mem.mp hx
    obtain ⟨y, ey⟩ : ∃ y, atI xs x = some y := ⟨_, atI_get (by omega) (by omega)⟩
    rw [ey, Option.bind_some, if_neg (by decide), Option.bind_some, Option.bind_some, decide_eq_true rfl]
    rfl
theorem keys_ok (hL : Lg Ls) (hR : Rs Ls R) (hk : k < Ls.length) : M_l_keys_hold Ls ((k : Int) + 1) (R.getD k []) = some true := by
  have hz := sz
  have ek : Ls[k]? = some Ls[k] := List.getElem?_eq_getElem hk
  obtain ⟨ra, rl, rm⟩ := rs_get hR ek
  unfold M_l_keys_hold
  rw [rests_ok hL hR hk, Option.bind_some]
  show ((some (R.getD k [])).bind _) = _
  rw [Option.bind_some, Option.bind_some, same_ok (by omega), Option.bind_some, if_neg (by decide), gp (by omega)]
  show ((some (R.getD k [])).bind _) = _
  rw [Option.bind_some, same_ok (by omega)]; rfl
end
theorem wp_try {S τ ε γ : Type} {k2 : S → Option γ} {ι : τ → γ} {m : ε → Bool} {TS : ε → Option (Bo S τ)} {Ke : ε → Option γ} {e : ε} {Q : γ → Prop} (hm : m e = true) (h : Wp ((TS e).bind (boK k2 ι)) Q) : Wp (tryK k2 ι m TS Ke (Bo.tm (Except.error e))) Q := by
  unfold tryK
  dsimp only
  rw [if_pos hm]
  exact h
theorem unknown_ok {Ls : List Ln} {n : Int} (h : ¬ (1 ≤ n ∧ n ≤ (Ls.length : Int))) : M_l_unknown Ls n = some true := by
  have e1 : M_used_marks Ls n = some (.error ⟨"UnknownLine", [.int n]⟩) := by
    unfold M_used_marks
    rw [if_pos]
    rw [Bool.not_eq_true', Bool.eq_false_iff]
    intro z
    rw [Bool.and_eq_true] at z
    exact h ⟨of_decide_eq_true z.1, of_decide_eq_true z.2⟩
  have e2 : M_rests_on Ls n = some (.error ⟨"UnknownLine", [.int n]⟩) := by
    unfold M_rests_on
    rw [e1]; rfl
  apply wp_is
  unfold M_l_unknown
  rw [e2]
  refine wp_eq (a := Bo.tm (Except.error ⟨"UnknownLine", [.int n]⟩)) rfl (wp_try (show subC "UnknownLine" "UnknownLine" = true from by decide +kernel) (wp_eq (a := Bo.tm true) ?_ (wp_some rfl)))
  rw [if_neg (by
    show ¬ ((subC "UnknownLine" "UnknownKey") || ((subC "UnknownLine" "BadLine") || (!(subC "UnknownLine" "DeskError")))) = true
    decide +kernel), if_pos (show subC "UnknownLine" "ValueError" = true from by decide +kernel)]
  have ef : erF ⟨"UnknownLine", [.int n]⟩ "number" = some (.int n) := by kernel_rfl
  have ei : M_l_is_integer n = some true := by unfold M_l_is_integer; rfl
  rw [ef, Option.bind_some]
  show inB ((((M_l_is_integer n).bind _).bind _)) = _
  rw [ei, Option.bind_some, if_pos rfl, Option.bind_some]
  show inB ((((some (decide (n = n), ())).bind _).bind _)) = _
  rw [decide_eq_true rfl]
  rfl
end My
end
section
namespace My
open PySem PySem.Spec PyProof.Rows L2 L3
theorem compM_id {α : Type} {f : α → Unit → Option (Option α × Unit)} {xs : List α} (h : ∀ x ∈ xs, f x () = some (some x, ())) : compM xs () f = some (xs, ()) := by
  rw [compM_map (g := fun x => x) h, List.map_id']
theorem cert_copy {c : CT} (h : Cw c) : M_l_certificate_copy c = some c := by
  unfold M_l_certificate_copy
  rcases h with ⟨n, _, rfl⟩ | ⟨L, rfl⟩ | ⟨w, l, h1, h2, _, _, rfl⟩
  · rfl
  · rw [if_neg (by show ¬ decide (("layers" : Str) = "empty") = true; decide), if_pos (by show decide (("layers" : Str) = "layers") = true; decide)]
    show ((some (L.map fun l => (.inr (.inr l) : EL))).bind _) = _
    rw [Option.bind_some, compM_id fun x hx => ?_]
    · rfl
    · obtain ⟨l, _, e⟩ := List.mem_map.mp hx
      subst e; rfl
  · dsimp only
    rw [if_neg (by rw [decide_eq_false h1]; decide), if_neg (by rw [decide_eq_false h2]; decide)]
    rfl
theorem line_copy {k : Nat} {l : Ln} (h : Lw k l) : M_l_line_copy l = some l := by
  apply wp_is
  unfold M_l_line_copy
  rcases h with ⟨b, n, hb, _, rfl⟩ | ⟨b, key, c, hb, _, hc, rfl⟩ | ⟨b, n, i, j, hb, _, _, _, rfl⟩
  · have hl := hb.ln
    refine wp_eq (a := ("void" : Str)) rfl ?_
    rw [if_neg (by decide)]
    refine wp_eq (a := ("void" : Str)) rfl ?_
    rw [if_neg (by decide)]
    refine wp_eq (a := ("void" : Str)) rfl ?_
    rw [if_neg (by decide)]
    refine wp_eq (a := ("void" : Str)) rfl ?_
    rw [if_neg (by decide)]
    exact wp_eq (a := ("void" : Str)) rfl (wp_eq (a := b) rfl (wp_eq (copied_ok hb.nd (by omega)) (wp_eq (a := n) rfl (wp_some rfl))))
  · have hl := hb.ln
    refine wp_eq (a := ("rule" : Str)) rfl ?_
    rw [if_neg (by decide)]
    refine wp_eq (a := ("rule" : Str)) rfl ?_
    rw [if_pos (by decide)]
    exact wp_eq (a := b) rfl (wp_eq (copied_ok hb.nd (by omega)) (wp_eq (a := key) rfl (wp_eq (a := c) rfl (wp_eq (cert_copy hc) (wp_some rfl)))))
  · have hl := hb.ln
    refine wp_eq (a := ("join" : Str)) rfl ?_
    rw [if_neg (by decide)]
    refine wp_eq (a := ("join" : Str)) rfl ?_
    rw [if_neg (by decide)]
    refine wp_eq (a := ("join" : Str)) rfl ?_
    rw [if_pos (by decide)]
    exact wp_eq (a := b) rfl (wp_eq (copied_ok hb.nd (by omega)) (wp_eq (a := n) rfl (wp_eq (a := i) rfl (wp_eq (a := j) rfl (wp_some rfl)))))
abbrev dS := deG dgStr injStr (of_decide_eq_true rfl)
abbrev dI := deG dgInt injInt (of_decide_eq_true rfl)
abbrev dLI := deG (dgL dgInt) (injL injInt) (of_decide_eq_true rfl)
abbrev dB := deM (κ := Str) dLI
abbrev dEL := deSm dI (deSm dS dLI)
abbrev dC := deT2 dS (deSm dS (deL dEL))
abbrev dLn := deSm (deT3 dS dB dS) (deSm (deT4 dS dB dS dC) (deT5 dS dB dS dI dI))
def Sf {α : Type} {E : α → Pd} (d : De E) (x : α) : Prop := d.ok x x = true ∧ d.eqv x x = true
theorem sf_S {s : Str} (h : strOk s = true) : Sf dS s := ⟨by show (strOk s && strOk s) = true; rw [h]; rfl, decide_eq_true rfl⟩
theorem sf_I {i : Int} : Sf dI i := ⟨rfl, decide_eq_true rfl⟩
theorem sf_LI {l : List Int} : Sf dLI l := ⟨okL, decide_eq_true rfl⟩
theorem sf_B {b : Box} (h : Bk b) : Sf dB b := ⟨dokG_of (f := dLI.ok) (d := b) (e := b) (fun x y => okL (xs := x) (ys := y)) h.nd, deqG_of (f := dLI.eqv) (d := b) (e := b) (fun x => decide_eq_true rfl) h.nd h.nd fun _ => rfl⟩
theorem sf_EL {x : EL} (h : ek x) : Sf dEL x := by
  rcases x with i | s | l
  · exact sf_I (i := i)
  · exact sf_S (s := s) h
  · exact sf_LI (l := l)
theorem lokG_self {α : Type} {f : α → α → Bool} : ∀ {xs : List α}, (∀ x ∈ xs, f x x = true) → lokG f xs xs = true
  | [], _ => rfl
  | x :: xs, h => by
    show (f x x && lokG f xs xs) = true
    rw [h x List.mem_cons_self, lokG_self fun y hy => h y (List.mem_cons_of_mem _ hy)]; rfl
theorem leqG_self {α : Type} {f : α → α → Bool} : ∀ {xs : List α}, (∀ x ∈ xs, f x x = true) → leqG f xs xs = true
  | [], _ => rfl
  | x :: xs, h => by
    show (f x x && leqG f xs xs) = true
    rw [h x List.mem_cons_self, leqG_self fun y hy => h y (List.mem_cons_of_mem _ hy)]; rfl
theorem sf_L {α : Type} {E : α → Pd} {d : De E} {l : List α} (h : ∀ x ∈ l, Sf d x) : Sf (deL d) l := ⟨lokG_self fun x hx => (h x hx).1, leqG_self fun x hx => (h x hx).2⟩
theorem sf_T2 {α β : Type} {A : α → Pd} {B : β → Pd} {d : De A} {e : De B} {x : α} {y : β} (h1 : Sf d x) (h2 : Sf e y) : Sf (deT2 d e) (x, y) := ⟨by show (d.ok x x && e.ok y y) = true; rw [h1.1, h2.1]; rfl, by show (d.eqv x x && e.eqv y y) = true; rw [h1.2, h2.2]; rfl⟩
theorem sf_C {c : CT} (h : Cw c) : Sf dC c := by
  rcases h with ⟨n, hn, rfl⟩ | ⟨L, rfl⟩ | ⟨w, l, _, _, hw, hl, rfl⟩
  · exact sf_T2 (sf_S (by decide +kernel)) (show Sf (deSm dS (deL dEL)) (.inl n) from sf_S hn)
  · refine sf_T2 (sf_S (by decide +kernel)) (show Sf (deSm dS (deL dEL)) (.inr _) from sf_L (d := dEL) fun x hx => sf_EL ?_)
    obtain ⟨l, _, e⟩ := List.mem_map.mp hx
    rw [← e]; trivial
  · exact sf_T2 (sf_S hw) (show Sf (deSm dS (deL dEL)) (.inr l) from sf_L (d := dEL) fun x hx => sf_EL (hl x hx))
theorem sf_ln {k : Nat} {l : Ln} (h : Lw k l) : Sf dLn l := by
  rcases h with ⟨b, n, hb, hn, rfl⟩ | ⟨b, key, c, hb, hk, hc, rfl⟩ | ⟨b, n, i, j, hb, hn, _, _, rfl⟩
  · obtain ⟨a1, a2⟩ := sf_S (s := "void") (by decide +kernel)
    obtain ⟨b1, b2⟩ := sf_B hb
    obtain ⟨c1, c2⟩ := sf_S hn
    exact ⟨by
      show (dS.ok "void" "void" && (dB.ok b b && (dS.ok n n && true))) = true
      rw [a1, b1, c1]; rfl, by
      show (dS.eqv "void" "void" && (dB.eqv b b && (dS.eqv n n && true))) = true
      rw [a2, b2, c2]; rfl⟩
  · obtain ⟨a1, a2⟩ := sf_S (s := "rule") (by decide +kernel)
    obtain ⟨b1, b2⟩ := sf_B hb
    obtain ⟨c1, c2⟩ := sf_S hk
    obtain ⟨d1, d2⟩ := sf_C hc
    exact ⟨by
      show (dS.ok "rule" "rule" && (dB.ok b b && (dS.ok key key && (dC.ok c c && true)))) = true
      rw [a1, b1, c1, d1]; rfl, by
      show (dS.eqv "rule" "rule" && (dB.eqv b b && (dS.eqv key key && (dC.eqv c c && true)))) = true
      rw [a2, b2, c2, d2]; rfl⟩
  · obtain ⟨a1, a2⟩ := sf_S (s := "join") (by decide +kernel)
    obtain ⟨b1, b2⟩ := sf_B hb
    obtain ⟨c1, c2⟩ := sf_S hn
    obtain ⟨d1, d2⟩ := sf_I (i := i)
    obtain ⟨e1, e2⟩ := sf_I (i := j)
    exact ⟨by
      show (dS.ok "join" "join" && (dB.ok b b && (dS.ok n n && (dI.ok i i && (dI.ok j j && true))))) = true
      rw [a1, b1, c1, d1, e1]; rfl, by
      show (dS.eqv "join" "join" && (dB.eqv b b && (dS.eqv n n && (dI.eqv i i && (dI.eqv j j && true))))) = true
      rw [a2, b2, c2, d2, e2]; rfl⟩
theorem sg_lt : ∀ c ∈ (("abcdefghijklmnopqrstuvwxyz" : Str) ++ ("_0123456789" : Str)).cps.toList, c < 1000 := by decide +kernel
theorem lt_lt : ∀ c ∈ ("abcdefghijklmnopqrstuvwxyz" : Str).cps.toList, c < 1000 := by decide +kernel
theorem word_wp {s : List Int} (hs : Stm s) : Wp (M_l_word s) fun r => (strOk r.1 = true ∧ r.1.length ≤ 20) ∧ Stm r.2 := by
  have hz := sz
  have l1 : ("abcdefghijklmnopqrstuvwxyz" : Str).length = 26 := by decide +kernel
  have l2 : ("_0123456789" : Str).length = 11 := by decide +kernel
  have l3 : (("abcdefghijklmnopqrstuvwxyz" : Str) ++ ("_0123456789" : Str)).length = 37 := by decide +kernel
  have l4 : ("abcdefghijklmnopqrstuvwxyz" : Str).cps.toList.length = 26 := by decide +kernel
  have l5 : (("abcdefghijklmnopqrstuvwxyz" : Str) ++ ("_0123456789" : Str)).cps.toList.length = 37 := by decide +kernel
  unfold M_l_word
  refine wp_let (wp_grd (by rw [l1, l2]; omega) (wp_let (wp_next hs (by decide) (by decide) fun i t i0 i1 ht => wp_grd (by rw [l1]; omega) (wp_bind (wp_at i0 (by rw [l4]; exact i1) fun c hc _ => wp_let (wp_next ht (by decide) (by decide) fun j t j0 j1 ht => ?_))))))
  have hj : ∃ m : Int, atI [(0 : Int), (0 : Int), (1 : Int), (1 : Int), (2 : Int), (4 : Int), (9 : Int), (19 : Int)] j = some m ∧ 0 ≤ m ∧ m ≤ 19 := by
    obtain ⟨m, e, hm⟩ := wp_at (xs := [(0 : Int), (0 : Int), (1 : Int), (1 : Int), (2 : Int), (4 : Int), (9 : Int), (19 : Int)]) (Q := fun m => 0 ≤ m ∧ m ≤ 19) j0 (by simpa using j1) fun x hx _ => by
      simp only [List.mem_cons, List.not_mem_nil, or_false] at hx
      omega
    exact ⟨m, e, hm⟩
  obtain ⟨m, em, m0, m1⟩ := hj
  refine wp_eq em (wp_grd (rg_lt (by omega) (by omega)) (wp_bind (wp_for (fun p (st : Str × List Int) => ((∀ c ∈ st.1.cps.toList, c < 1000) ∧ st.1.length = 1 + p.length) ∧ Stm st.2) ⟨⟨fun c' hc' => ?_, rfl⟩, ht⟩ ?_ ?_)))
  · have hc' : c' ∈ [c] := hc'
    rw [List.mem_singleton.mp hc']
    exact lt_lt c hc
  · rintro p x u ⟨z, t⟩ e ⟨⟨h1, h2⟩, ht⟩
    have h2 : z.length = 1 + p.length := h2
    have hp := (rngL_split e).2
    dsimp only at h1 ht ⊢
    refine wp_next ht (by decide) (by decide) fun q t q0 q1 ht => wp_grd (by rw [l3]; omega) (wp_bind (wp_at q0 (by rw [l5]; exact q1) fun d hd _ => wp_grd (by rw [len1]; omega) (wp_let (wp_some ⟨⟨fun c' hc' => ?_, ?_⟩, ht⟩))))
    · have hc' : c' ∈ (z ++ (⟨#[d]⟩ : Str)).cps.toList := hc'
      rw [cps_app] at hc'
      rcases List.mem_append.mp hc' with h | h
      · exact h1 c' h
      · have h : c' ∈ [d] := h
        rw [List.mem_singleton.mp h]
        exact sg_lt d hd
    · show (z ++ (⟨#[d]⟩ : Str)).length = _
      rw [len_app, len1, List.length_append, List.length_singleton]; omega
  · rintro ⟨z, t⟩ ⟨⟨h1, h2⟩, ht⟩
    have h2 : z.length = 1 + (rngL 0 m.toNat).length := h2
    rw [rngL_len] at h2
    exact wp_some ⟨⟨strOk_of h1, by show z.length ≤ 20; omega⟩, ht⟩
theorem number_wp {s : List Int} {m : Int} (hs : Stm s) : Wp (M_l_number s m) fun r => Stm r.2 := by
  unfold M_l_number
  refine wp_next hs (by decide) (by decide) fun i t i0 i1 ht => wp_let (wp_next ht (by decide) (by decide) fun j t _ _ ht => wp_ite (fun _ => wp_some ht) fun _ => wp_grd ?_ (wp_next ht (by decide +kernel) (by decide +kernel) fun _ t _ _ ht => wp_some ht))
  dsimp only
  rw [sm_lt (i := i - 9) (by omega) (by omega)]; rfl
theorem dside_wp {s : List Int} (hs : Stm s) : Wp (M_l_drawn_side s) fun r => Stm r.2 := by
  have hz := sz
  unfold M_l_drawn_side
  refine wp_next hs (by decide) (by decide) fun i t i0 i1 ht => wp_bind (wp_at i0 (by simpa using i1) fun sc _ _ => wp_let (wp_next ht (by decide) (by decide) fun j t j0 j1 ht => wp_let (wp_let (wp_next ht (by decide) (by decide) fun n t n0 n1 ht => wp_grd (rg_lt (by dsimp only; omega) (by dsimp only; omega)) (wp_bind (wp_for (fun p (st : Int × List Int × List Int) => ((-4 ≤ st.1 ∧ st.1 ≤ 4 + 3 * p.length) ∧ st.2.1.length = p.length) ∧ Stm st.2.2) ⟨⟨⟨by dsimp only; omega, by dsimp only; omega⟩, rfl⟩, ht⟩ ?_ ?_))))))
  · rintro p x u ⟨v, l, t⟩ e ⟨⟨⟨h1, h2⟩, h3⟩, ht⟩
    have h1 : -4 ≤ v := h1
    have h2 : v ≤ 4 + 3 * p.length := h2
    have h3 : l.length = p.length := h3
    have hp := (rngL_split e).2
    dsimp only at ht ⊢
    refine wp_grd (by rw [sm_lt (i := v) (by omega) (by omega)]; rfl) (wp_grd (by omega) (wp_next ht (by decide) (by decide) fun q t q0 q1 ht => wp_let (wp_some ⟨⟨⟨by dsimp only; omega, ?_⟩, ?_⟩, ht⟩)))
    · dsimp only
      rw [List.length_append, List.length_singleton]; omega
    · show (l ++ [_]).length = _
      rw [List.length_append, List.length_append, List.length_singleton, List.length_singleton, h3]
  · rintro ⟨v, l, t⟩ ⟨_, ht⟩
    exact wp_some ht
theorem dsides_wp {s : List Int} (hs : Stm s) : Wp (M_l_drawn_sides s) fun r => Bk r.1 ∧ Stm r.2 := by
  have hz := sz
  unfold M_l_drawn_sides
  refine wp_let (wp_next hs (by decide) (by decide) fun n t n0 n1 ht => wp_grd (rg_lt (by dsimp only; omega) (by dsimp only; omega)) (wp_bind (wp_for (fun p (st : Box × List Int) => ((keys st.1).Nodup ∧ st.1.length ≤ p.length) ∧ Stm st.2) ⟨⟨List.nodup_nil, Nat.le_refl _⟩, ht⟩ ?_ ?_)))
  · rintro p x u ⟨b, t⟩ e ⟨⟨h1, h2⟩, ht⟩
    have h2 : b.length ≤ p.length := h2
    have hp := (rngL_split e).2
    dsimp only at h1 ht ⊢
    refine wp_then (word_wp ht) fun w ⟨_, ht⟩ => wp_let (wp_then (dside_wp ht) fun d ht => wp_grd (by omega) (wp_some ⟨⟨nodup_put h1, ?_⟩, ht⟩))
    show (dput b _ _).length ≤ _
    rw [List.length_append, List.length_singleton]
    by_cases h : w.1 ∈ keys b
    · rw [← keys_len, keys_put_old h, keys_len]; omega
    · rw [dput_new h, List.length_append, List.length_singleton]; omega
  · rintro ⟨b, t⟩ ⟨⟨h1, h2⟩, ht⟩
    have h2 : b.length ≤ (rngL 0 n.toNat).length := h2
    rw [rngL_len] at h2
    exact wp_some ⟨⟨h1, by show b.length ≤ 10; omega⟩, ht⟩
theorem cert_wp {s : List Int} (hs : Stm s) : Wp (M_l_drawn_certificate s) fun r => Cw r.1 ∧ Stm r.2 := by
  unfold M_l_drawn_certificate
  refine wp_next hs (by decide) (by decide) fun i t i0 i1 ht => wp_bind (wp_at i0 (by simpa using i1) fun w hw _ => wp_let (wp_ite (fun z => ?_) fun z => ?_))
  · have z := of_decide_eq_true z
    exact wp_then (word_wp ht) fun r ⟨⟨h, _⟩, ht⟩ => wp_some ⟨.inl ⟨r.1, h, by rw [z]⟩, ht⟩
  have hw2 : strOk w = true := by
    simp only [List.mem_cons, List.not_mem_nil, or_false] at hw
    rcases hw with h | h | h | h | h | h | h <;> (rw [h]; decide +kernel)
  have z : w ≠ "empty" := by simpa using z
  refine wp_next ht (by decide) (by decide) fun n t n0 n1 ht => wp_let (wp_ite (fun z2 => ?_) fun z2 => wp_ite (fun z3 => ?_) fun z3 => ?_)
  · refine wp_grd (rg_lt (by dsimp only; omega) (by dsimp only; omega)) (wp_bind (wp_compA Stm ek ht (fun x _ s hs => ?_) fun ys s _ hy hs => wp_some ⟨.inr (.inr ⟨w, ys, z, ?_, hw2, hy, rfl⟩), hs⟩))
    · rw [if_pos rfl]
      exact wp_then (word_wp hs) fun r ⟨⟨h, _⟩, ht⟩ => wp_some ⟨_, rfl, h, ht⟩
    · intro e
      rw [e] at z2
      exact absurd z2 (by decide)
  · have z3 := of_decide_eq_true z3
    refine wp_grd (rg_lt (by dsimp only; omega) (by dsimp only; omega)) (wp_bind (wp_compA Stm (fun y => ∃ l, y = (.inr (.inr l) : EL)) ht (fun x _ s hs => ?_) fun ys s _ hy hs => wp_some ⟨.inr (.inl ?_), hs⟩))
    · rw [if_pos rfl]
      exact wp_then (dside_wp hs) fun r ht => wp_some ⟨_, rfl, ⟨_, rfl⟩, ht⟩
    · have : ∀ ys : List EL, (∀ y ∈ ys, ∃ l, y = (.inr (.inr l) : EL)) → ∃ L : List (List Int), ys = L.map fun l => .inr (.inr l) := by
        intro ys
        induction ys with
        | nil => exact fun _ => ⟨[], rfl⟩
        | cons a ys ih =>
          intro h
          obtain ⟨L, e⟩ := ih fun y hy => h y (List.mem_cons_of_mem _ hy)
          obtain ⟨l, e2⟩ := h a List.mem_cons_self
          exact ⟨l :: L, by rw [e, e2]; rfl⟩
      obtain ⟨L, e⟩ := this ys hy
      exact ⟨L, by rw [z3, e]⟩
  · have z3 : w ≠ "layers" := by simpa using z3
    refine wp_grd (rg_lt (by dsimp only; omega) (by dsimp only; omega)) (wp_bind (wp_compA Stm ek ht (fun x _ s hs => ?_) fun ys s _ hy hs => wp_some ⟨.inr (.inr ⟨w, ys, z, z3, hw2, hy, rfl⟩), hs⟩))
    rw [if_pos rfl]
    exact wp_then (number_wp hs) fun r ht => wp_some ⟨_, rfl, trivial, ht⟩
def Ky (ks : List Str) : Ln → Prop
  | .inr (.inl (_, _, key, _)) => key ∈ ks
  | _ => True
theorem line_wp {s : List Int} {ks : List Str} {k : Nat} (hs : Stm s) (h0 : 0 < ks.length) (h1 : ks.length ≤ 20) (ho : ∀ x ∈ ks, strOk x = true) (hk : k ≤ 100) : Wp (M_l_log_line s ks (k : Int)) fun r => Lw k r.1 ∧ Ky ks r.1 := by
  unfold M_l_log_line
  refine wp_then (dsides_wp hs) fun b ⟨hb, ht⟩ => wp_let (wp_next ht (by decide) (by decide) fun w t _ _ ht => wp_let (wp_ite (fun z => ?_) fun z => wp_ite (fun z => ?_) fun z => ?_))
  · rw [Bool.and_eq_true] at z
    have z := of_decide_eq_true z.2
    refine wp_next ht z (by omega) fun i t i0 i1 ht => wp_let (wp_then (word_wp ht) fun n ⟨⟨hn, _⟩, ht⟩ => wp_next ht z (by omega) fun j t j0 j1 ht => wp_some ⟨.inr (.inr ⟨b.1, n.1, 1 + i, 1 + j, hb, hn, by omega, by omega, rfl⟩), trivial⟩)
  · exact wp_then (word_wp ht) fun n ⟨⟨hn, _⟩, ht⟩ => wp_some ⟨.inl ⟨b.1, n.1, hb, hn, rfl⟩, trivial⟩
  · exact wp_next ht (by omega) (by omega) fun i t i0 i1 ht => wp_bind (wp_at i0 i1 fun key hkey _ => wp_then (cert_wp ht) fun c ⟨hc, ht⟩ => wp_some ⟨.inr (.inl ⟨b.1, key, c.1, hb, ho key hkey, hc, rfl⟩), hkey⟩)
end My
end
section
namespace My
open PySem PySem.Spec PyProof.Rows L2 L3
structure Iv (ks : List Str) (Ls : List Ln) (R : List (List Str)) : Prop where
  len : R.length = Ls.length
  wf : ∀ (k : Nat) l, Ls[k]? = some l → Lw k l
  ex : ∀ (k : Nat) l, Ls[k]? = some l → ∃ r : List Str, R[k]? = some r ∧ Asc r ∧ (∀ x ∈ r, x ∈ ks) ∧ ∀ x, x ∈ r ↔ Rm R l x
theorem Rm.snoc {R : List (List Str)} {q : List Str} {l : Ln} {k : Nat} {x : Str} (h : Lw k l) (hk : k ≤ R.length) : Rm (R ++ [q]) l x ↔ Rm R l x := by
  have g : ∀ m, m < R.length → (R ++ [q]).getD m [] = R.getD m [] := fun m hm => by
    rw [List.getD_eq_getElem?_getD, List.getD_eq_getElem?_getD, List.getElem?_append_left hm]
  rcases h with ⟨b, n, _, _, rfl⟩ | ⟨b, key, c, _, _, _, rfl⟩ | ⟨b, n, i, j, _, _, h1, h2, rfl⟩
  · exact Iff.rfl
  · exact Iff.rfl
  · show x ∈ (R ++ [q]).getD (i - 1).toNat [] ∨ x ∈ (R ++ [q]).getD (j - 1).toNat [] ↔ x ∈ R.getD (i - 1).toNat [] ∨ x ∈ R.getD (j - 1).toNat []
    rw [g _ (by omega), g _ (by omega)]
theorem Iv.snoc {ks : List Str} {Ls : List Ln} {R : List (List Str)} {l : Ln} {q : List Str} (h : Iv ks Ls R) (hl : Lw Ls.length l) (h1 : Asc q) (h2 : ∀ x ∈ q, x ∈ ks) (h3 : ∀ x, x ∈ q ↔ Rm R l x) : Iv ks (Ls ++ [l]) (R ++ [q]) := by
  have hlen := h.len
  have get : ∀ (k : Nat) l', (Ls ++ [l])[k]? = some l' → (k < Ls.length ∧ Ls[k]? = some l') ∨ (k = Ls.length ∧ l' = l) := fun k l' hk => by
    by_cases c : k < Ls.length
    · rw [List.getElem?_append_left c] at hk; exact .inl ⟨c, hk⟩
    · rw [List.getElem?_append_right (by omega)] at hk
      by_cases c2 : k = Ls.length
      · rw [c2, Nat.sub_self] at hk; cases hk; exact .inr ⟨c2, rfl⟩
      · rw [List.getElem?_eq_none (by rw [List.length_singleton]; omega)] at hk; cases hk
  refine ⟨by rw [List.length_append, List.length_append, hlen]; rfl, fun k l' hk => ?_, fun k l' hk => ?_⟩
  · rcases get k l' hk with ⟨_, e⟩ | ⟨e1, e2⟩
    · exact h.wf k l' e
    · rw [e1, e2]; exact hl
  · rcases get k l' hk with ⟨c, e⟩ | ⟨e1, e2⟩
    · obtain ⟨r, g1, g2, g3, g4⟩ := h.ex k l' e
      refine ⟨r, by rw [List.getElem?_append_left (by omega)]; exact g1, g2, g3, fun x => ?_⟩
      rw [g4, Rm.snoc (h.wf k l' e) (by omega)]
    · subst e2
      refine ⟨q, by rw [List.getElem?_append_right (by omega), e1, hlen, Nat.sub_self]; rfl, h1, h2, fun x => ?_⟩
      rw [h3, Rm.snoc hl (by omega)]
theorem rests_wp {ks : List Str} {Ls : List Ln} {R : List (List Str)} {l : Ln} (h : Iv ks Ls R) (hl : Lw Ls.length l) (hk : Ky ks l) (hks : ks.length ≤ 20) : Wp (M_l_rests l R) fun r => (Asc r.1 ∧ (∀ x ∈ r.1, x ∈ ks) ∧ ∀ x, x ∈ r.1 ↔ Rm R l x) ∧ r.2 = R := by
  have hz := sz
  have hlen := h.len
  unfold M_l_rests
  rcases hl with ⟨b, n, _, _, rfl⟩ | ⟨b, key, c, _, _, _, rfl⟩ | ⟨b, n, i, j, _, _, h1, h2, rfl⟩
  · refine wp_eq (a := ("void" : Str)) rfl ?_
    rw [if_neg (by decide)]
    refine wp_let (wp_eq (a := ("void" : Str)) rfl ?_)
    rw [if_neg (by decide)]
    refine wp_let (wp_then (asc_wp List.nodup_nil (by decide)) fun r ⟨r1, r2, _⟩ => wp_some ⟨⟨r1, (fun x hx => nomatch (r2 x).mp hx), fun x => (r2 x).trans ⟨fun h => (nomatch h), fun h => False.elim h⟩⟩, rfl⟩)
  · refine wp_eq (a := ("rule" : Str)) rfl ?_
    rw [if_pos (by decide)]
    refine wp_eq (a := key) rfl (wp_some ⟨⟨List.pairwise_singleton _ _, fun x hx => by rw [List.mem_singleton.mp hx]; exact hk, fun x => List.mem_singleton⟩, rfl⟩)
  · refine wp_eq (a := ("join" : Str)) rfl ?_
    rw [if_neg (by decide)]
    refine wp_let (wp_eq (a := ("join" : Str)) rfl ?_)
    rw [if_pos (by decide)]
    have get : ∀ m, m < Ls.length → Asc (R.getD m []) ∧ (∀ x ∈ R.getD m [], x ∈ ks) ∧ R[m]? = some (R.getD m []) := fun m hm => by
      obtain ⟨r, g1, g2, g3, g4⟩ := h.ex m _ (List.getElem?_eq_getElem hm)
      have : R.getD m [] = r := by rw [List.getD_eq_getElem?_getD, g1]; rfl
      rw [this]; exact ⟨g2, g3, g1⟩
    obtain ⟨a1, a2, a3⟩ := get (i - 1).toNat (by omega)
    obtain ⟨b1, b2, b3⟩ := get (j - 1).toNat (by omega)
    have la := sub_len a1.nd a2
    have lb := sub_len b1.nd b2
    refine wp_then (P := fun r : List Str => r.Nodup ∧ (∀ x, x ∈ r ↔ x ∈ R.getD (i - 1).toNat [] ++ R.getD (j - 1).toNat []) ∧ r.length ≤ 40) (wp_eq (a := i) rfl (wp_eq (atI_of2 (by omega) a3) (wp_eq (a := j) rfl (wp_eq (atI_of2 (by omega) b3) (wp_grd (by omega) (wp_then (dedup_wp (by rw [List.length_append]; omega)) fun r ⟨r1, r2, r3⟩ => wp_some ⟨r1, r2, by rw [List.length_append] at r3; omega⟩)))))) fun r ⟨r1, r2, r3⟩ => ?_
    refine wp_then (asc_wp r1 (by omega)) fun q ⟨q1, q2, _⟩ => wp_some ⟨⟨q1, fun x hx => ?_, fun x => ?_⟩, rfl⟩
    · rw [q2, r2, List.mem_append] at hx
      exact hx.elim (a2 x) (b2 x)
    · rw [q2, r2, List.mem_append]; exact Iff.rfl
theorem Iv.rs {ks : List Str} {Ls : List Ln} {R : List (List Str)} (h : Iv ks Ls R) (hks : ks.length ≤ 20) : Rs Ls R := ⟨fun k l e => by
  obtain ⟨r, g1, g2, g3, g4⟩ := h.ex k l e
  have := sub_len g2.nd g3
  exact ⟨r, g1, g2, by omega, g4⟩⟩
theorem take_get {α : Type} {xs : List α} {h k : Nat} {y : α} (e : (xs.take h)[k]? = some y) : xs[k]? = some y := by
  rw [List.getElem?_take] at e
  split at e
  · exact e
  · cases e
theorem long_ok {n : Int} (h0 : 1 ≤ n) (h1 : n ≤ 1500) : M_l_long_holds n = some true := by
  have hz := sz
  let base : List Ln := [vL [] "x", rL [] "key_1" ("blame", .inr [])]
  let J : Int → Ln := fun x => jL [] "x" (x + 2) (x + 2)
  have hb : Bk [] := ⟨List.nodup_nil, Nat.zero_le _⟩
  have hx : strOk ("x" : Str) = true := by decide +kernel
  obtain ⟨m, em⟩ : ∃ m : Nat, n = (m : Int) := ⟨n.toNat, by omega⟩
  subst em
  have hlen : (base ++ (rngL 0 m).map J).length = m + 2 := by
    rw [List.length_append, List.length_map, rngL_len]; show 2 + m = m + 2; omega
  have get : ∀ (k : Nat) l, (base ++ (rngL 0 m).map J)[k]? = some l → (k = 0 ∧ l = vL [] "x") ∨ (k = 1 ∧ l = rL [] "key_1" ("blame", .inr [])) ∨ (2 ≤ k ∧ l = jL [] "x" (k : Int) (k : Int)) := fun k l e => by
    match k with
    | 0 => cases e; exact .inl ⟨rfl, rfl⟩
    | 1 => cases e; exact .inr (.inl ⟨rfl, rfl⟩)
    | k + 2 =>
      rw [List.getElem?_append_right (by show 2 ≤ k + 2; omega)] at e
      have e : ((rngL 0 m).map J)[k]? = some l := e
      rw [List.getElem?_map] at e
      unfold rngL at e
      rw [List.getElem?_map] at e
      by_cases c : k < m
      · rw [List.getElem?_range c] at e
        have e : some (J (0 + (k : Int))) = some l := e
        refine .inr (.inr ⟨by omega, ?_⟩)
        rw [← Option.some.inj e]
        show jL [] "x" (0 + (k : Int) + 2) (0 + (k : Int) + 2) = _
        congr 1 <;> omega
      · rw [List.getElem?_eq_none (by rw [List.length_range]; omega)] at e
        cases e
  let R : List (List Str) := [] :: List.replicate (m + 1) [("key_1" : Str)]
  have hR : ∀ k, 1 ≤ k → k < m + 2 → R[k]? = some [("key_1" : Str)] := fun k k1 k2 => by
    match k with
    | k + 1 =>
      show (List.replicate (m + 1) [("key_1" : Str)])[k]? = _
      rw [List.getElem?_replicate, if_pos (by omega)]
  have hg : ∀ k, 1 ≤ k → k < m + 2 → R.getD k [] = [("key_1" : Str)] := fun k k1 k2 => by
    rw [List.getD_eq_getElem?_getD, hR k k1 k2]; rfl
  have hL : Lg (base ++ (rngL 0 m).map J) := ⟨by rw [hlen]; omega, fun k l e => by
    rcases get k l e with ⟨_, rfl⟩ | ⟨_, rfl⟩ | ⟨k2, rfl⟩
    · exact .inl ⟨_, _, hb, hx, rfl⟩
    · exact .inr (.inl ⟨_, _, _, hb, by decide +kernel, .inr (.inr ⟨"blame", [], by decide, by decide, by decide +kernel, (fun _ h => nomatch h), rfl⟩), rfl⟩)
    · exact .inr (.inr ⟨_, _, _, _, hb, hx, by omega, by omega, rfl⟩)⟩
  have hRs : Rs (base ++ (rngL 0 m).map J) R := ⟨fun k l e => by
    have hk : k < m + 2 := by
      by_cases c : k < m + 2
      · exact c
      · rw [List.getElem?_eq_none (by rw [hlen]; omega)] at e; cases e
    rcases get k l e with ⟨rfl, rfl⟩ | ⟨rfl, rfl⟩ | ⟨k2, rfl⟩
    · exact ⟨[], rfl, List.Pairwise.nil, by decide, fun x => ⟨fun h => (nomatch h), fun h => False.elim h⟩⟩
    · exact ⟨_, hR 1 (by decide) (by omega), List.pairwise_singleton _ _, by show 1 < 64; decide, fun x => List.mem_singleton⟩
    · refine ⟨_, hR k (by omega) hk, List.pairwise_singleton _ _, by show 1 < 64; decide, fun x => ?_⟩
      show _ ↔ x ∈ R.getD ((k : Int) - 1).toNat [] ∨ x ∈ R.getD ((k : Int) - 1).toNat []
      rw [hg _ (by omega) (by omega), or_self]⟩
  have r1 := rests_ok hL hRs (k := m + 1) (by rw [hlen]; omega)
  have r0 := rests_ok hL hRs (k := 0) (by rw [hlen]; omega)
  rw [hg (m + 1) (by omega) (by omega)] at r1
  have e0 : R.getD 0 [] = [] := rfl
  rw [e0] at r0
  have c1 : (((m + 1 : Nat) : Int) + 1) = (m : Int) + 2 := by omega
  have c0 : (((0 : Nat) : Int) + 1) = (1 : Int) := rfl
  rw [c1] at r1
  rw [c0] at r0
  apply wp_is
  unfold M_l_long_holds
  refine wp_let (wp_grd (rg_lt (by omega) (by omega)) (wp_bind (wp_for (fun p s => s = base ++ p.map J) (by rw [List.map_nil, List.append_nil]; rfl) ?_ ?_)))
  · rintro p x t s e rfl
    have hp := (rngL_split e).2
    refine wp_grd (by rw [List.length_append, List.length_map]; show 2 + p.length < _; omega) (wp_some ?_)
    rw [List.map_append, List.append_assoc]; rfl
  · rintro s rfl
    rw [Int.toNat_natCast]
    refine wp_eq (a := [("key_1" : Str)]) (by rw [r1]; rfl) (wp_grd (by decide +kernel) (wp_eq (a := (true, ())) ?_ (wp_some rfl)))
    rw [if_pos (by decide), r0]
    show ((some ([] : List Str)).bind _) = _
    rw [Option.bind_some, gp (by decide +kernel)]; rfl
theorem eq_end {α : Type} {E : α → Pd} {d : De E} {Ls : List α} (h : ∀ l ∈ Ls, Sf d l) : grd (lokG d.ok Ls Ls = true) (some ((!leqG d.eqv Ls Ls), ())) = some (false, ()) := by
  rw [gp (lokG_self fun x hx => (h x hx).1), leqG_self fun x hx => (h x hx).2]; rfl
theorem law_ok (script : List Int) : M_law script = some true := by
  have hz := sz
  apply wp_is
  unfold M_law
  refine wp_stream (by decide) fun s hs => wp_let (wp_next hs (by decide) (by decide) fun a t a0 a1 ht => wp_grd (rg_lt (by dsimp only; omega) (by dsimp only; omega)) (wp_bind (wp_compA Stm (fun x : Str => strOk x = true) ht (fun x _ s hs => ?_) fun ks s hkl hko hs => wp_let (wp_next hs (by decide) (by decide) fun b t b0 b1 ht => ?_))))
  · rw [if_pos rfl]
    exact wp_then (word_wp hs) fun r ⟨⟨h, _⟩, ht⟩ => wp_some ⟨_, rfl, h, ht⟩
  rw [rngL_len] at hkl
  have hk0 : 0 < ks.length := by dsimp only at hkl; omega
  have hk1 : ks.length ≤ 20 := by dsimp only at hkl; omega
  obtain ⟨m, em, m0, m1⟩ : ∃ m : Int, atI [(12 : Int), (12 : Int), (12 : Int), (12 : Int), (12 : Int), (40 : Int)] b = some m ∧ 0 ≤ m ∧ m ≤ 40 := by
    obtain ⟨m, e, hm⟩ := wp_at (xs := [(12 : Int), (12 : Int), (12 : Int), (12 : Int), (12 : Int), (40 : Int)]) (Q := fun m => 0 ≤ m ∧ m ≤ 40) b0 (by simpa using b1) fun x hx _ => by
      simp only [List.mem_cons, List.not_mem_nil, or_false] at hx
      omega
    exact ⟨m, e, hm⟩
  dsimp only
  refine wp_eq em (wp_let (wp_let (wp_let ?_)))
  obtain ⟨c, ec, c0, c1⟩ : ∃ c, (min (max (1 : Int) ((script.length : Int) - (1 : Int))) m) = c ∧ 0 ≤ c ∧ c ≤ 40 := ⟨_, rfl, by omega, by omega⟩
  rw [ec]
  refine wp_grd (rg_lt (by omega) (by omega)) (wp_bind (wp_for (fun p (st : List (List Str) × List Ln) => Iv ks st.2 st.1 ∧ st.2.length = p.length) ⟨⟨rfl, fun _ _ h => by simp at h, fun _ _ h => by simp at h⟩, rfl⟩ ?_ ?_))
  · rintro p x u ⟨R, Ls⟩ e ⟨hI, hl⟩
    have hI : Iv ks Ls R := hI
    have hl : Ls.length = p.length := hl
    obtain ⟨ex, hp⟩ := rngL_split e
    have ex : x = (Ls.length : Int) := by omega
    subst ex
    refine wp_stream (by omega) fun s hs => wp_then (line_wp hs hk0 hk1 hko (by omega)) fun l ⟨hw, hky⟩ => wp_let (wp_grd (by show Ls.length < _; omega) (wp_then (rests_wp hI hw hky hk1) fun r ⟨⟨h1, h2, h3⟩, h4⟩ => ?_))
    obtain ⟨r, R2⟩ := r
    have h4 : R2 = R := h4
    subst h4
    have := hI.len
    refine wp_grd (by show R2.length < _; omega) (wp_some ⟨hI.snoc hw h1 h2 h3, ?_⟩)
    show (Ls ++ [_]).length = _
    rw [List.length_append, List.length_append, hl]; rfl
  rintro ⟨R, Ls⟩ ⟨hI, hl⟩
  have hI : Iv ks Ls R := hI
  have hl : Ls.length = (rngL 0 c.toNat).length := hl
  rw [rngL_len] at hl
  dsimp only
  refine wp_eq (compM_id fun x hx => ?_) (wp_let (wp_grd (by decide) (wp_let ?_)))
  · obtain ⟨q, hq⟩ := List.mem_iff_getElem?.mp hx
    rw [if_pos rfl, line_copy (hI.wf q x hq)]; rfl
  dsimp only
  have hL : Lg Ls := ⟨by omega, hI.wf⟩
  have hR : Rs Ls R := hI.rs hk1
  rw [cut_take (Int.ediv_nonneg (by omega) (by decide))]
  have hLh : ∀ h, Lg (Ls.take h) := fun h => ⟨by rw [List.length_take]; omega, fun k l e => hI.wf k l (take_get e)⟩
  have hRh : ∀ h, Rs (Ls.take h) R := fun h => ⟨fun k l e => hR.ex k l (take_get e)⟩
  generalize hH : Ls.take ((Ls.length : Int) / 2).toNat = Hf
  have hL2 : Lg Hf := by rw [← hH]; exact hLh _
  have hR2 : Rs Hf R := by rw [← hH]; exact hRh _
  have hln := hI.len
  refine wp_grd (rg_lt (by omega) (by omega)) ?_
  rw [forL_go (s := ()) fun x hx => ?_]
  · refine wp_bind ⟨_, rfl, ?_⟩
    show Wp ((forL [(0 : Int), (-(1 : Int)), ((Ls.length : Int) + (1 : Int)), ((10 : Int) ^ (30 : Int).toNat)] () _).bind _) _
    rw [forL_go (s := ()) fun x hx => ?_]
    · refine wp_bind ⟨_, rfl, ?_⟩
      refine wp_eq (unknown_ok (by omega)) (wp_eq (a := (false, ())) ?_ ?_)
      · have hs : ∀ l ∈ Ls, Sf dLn l := fun l hl => by
          obtain ⟨q, hq⟩ := List.mem_iff_getElem?.mp hl
          exact sf_ln (hI.wf q l hq)
        rw [if_neg (by decide)]
        exact eq_end hs
      · rw [if_neg (by decide)]
        refine wp_next ht (by decide) (by decide) fun w t _ _ ht => wp_then (P := fun c : Bool × List Int => c.1 = true) (wp_ite (fun _ => wp_some rfl) fun _ => wp_next ht (by decide) (by decide) fun n t n0 n1 ht => wp_eq (long_ok (by omega) (by dsimp only; omega)) (wp_some rfl)) fun c hc => wp_some hc
    · have u1 : M_l_unknown Ls x = some true := unknown_ok fun h => by
        have e30 : ((10 : Int) ^ (30 : Int).toNat) = 1000000000000000000000000000000 := by decide +kernel
        simp only [List.mem_cons, List.not_mem_nil, or_false] at hx
        rw [e30] at hx
        omega
      have u2 : M_l_unknown [] x = some true := unknown_ok fun h => by
        have : (([] : List Ln).length : Int) = 0 := rfl
        omega
      rw [u1, Option.bind_some, if_neg (by decide), u2]
      rfl
  · have hx := rngL_mem.mp hx
    obtain ⟨q, eq⟩ : ∃ q : Nat, x = (q : Int) := ⟨x.toNat, by omega⟩
    subst eq
    have hq : q < Ls.length := by omega
    have er : atI R (q : Int) = some (R.getD q []) := by
      rw [atI_get (by omega) (by omega)]
      simp only [Int.toNat_natCast, List.getD_eq_getElem?_getD]
      rw [List.getElem?_eq_getElem (by omega)]; rfl
    rw [er, Option.bind_some, keys_ok hL hR hq, Option.bind_some, if_neg (by decide)]
    by_cases c : q < Hf.length
    · rw [if_pos (decide_eq_true (by omega)), Option.bind_some, keys_ok hL2 hR2 c]
      rfl
    · rw [if_neg (by rw [decide_eq_false (by omega)]; decide)]
      rfl
end My
end
section
set_option maxHeartbeats 0
namespace My
open PySem PySem.Spec PyProof.Rows L2 L3
theorem tx_UnknownLine : XTx (PySem.Challenge.rw_curbdesk_k46_rests_on).prog x_UnknownLine := ⟨by decide, by rfl, ⟨_, _, _, _, _, _, _, _, _, _, rfl, .cons (by decide) (.nil), rfl, rfl, rfl⟩, rfl, rfl, rfl, by decide +kernel, rfl, rfl, rfl, by decide +kernel, by decide, fun _ _ _ _ _ _ us hl => match us, hl with | [_, _], _ => rfl⟩
theorem facts {w : World} {K : PySem.W.Frag} {h : Heap} {mg : Str → Option Value} {f : Addr} (X : K.In h) (G : h.Ns mainGlobals mg) (hfa : mg ("law" : Str) = some (.ref f)) (cx : SaysX R.prog fa fn xs rsL csL K) :
    ∃ fd : FuncData, (∀ (s : Shared) (v : Value), BindsTo s fd ⟨[v], []⟩ [("_law_script", v)]) ∧ ∀ base : Heap, K.In base → base.Ns mainGlobals mg → FnOk R.prog w K mg base CX0 5 f fd ["_law_script"] (Sp_S K M_law) := by
  have c := cx.d
  obtain ⟨fd_used_marks, F_used_marks⟩ := c.def_ 0 (d := d_used_marks) rfl
  obtain ⟨fd_rests_on, F_rests_on⟩ := c.def_ 1 (d := d_rests_on) rfl
  obtain ⟨fd__law_is_integer, F__law_is_integer⟩ := c.def_ 2 (d := d__law_is_integer) rfl
  obtain ⟨fd__law_stream, F__law_stream⟩ := c.def_ 3 (d := d__law_stream) rfl
  obtain ⟨fd__law_next, F__law_next⟩ := c.def_ 4 (d := d__law_next) rfl
  obtain ⟨fd__law_word, F__law_word⟩ := c.def_ 5 (d := d__law_word) rfl
  obtain ⟨fd__law_number, F__law_number⟩ := c.def_ 6 (d := d__law_number) rfl
  obtain ⟨fd__law_drawn_side, F__law_drawn_side⟩ := c.def_ 7 (d := d__law_drawn_side) rfl
  obtain ⟨fd__law_drawn_sides, F__law_drawn_sides⟩ := c.def_ 8 (d := d__law_drawn_sides) rfl
  obtain ⟨fd__law_drawn_certificate, F__law_drawn_certificate⟩ := c.def_ 9 (d := d__law_drawn_certificate) rfl
  obtain ⟨fd__law_log_line, F__law_log_line⟩ := c.def_ 10 (d := d__law_log_line) rfl
  obtain ⟨fd__law_certificate_copy, F__law_certificate_copy⟩ := c.def_ 11 (d := d__law_certificate_copy) rfl
  obtain ⟨fd__law_copied, F__law_copied⟩ := c.def_ 12 (d := d__law_copied) rfl
  obtain ⟨fd__law_line_copy, F__law_line_copy⟩ := c.def_ 13 (d := d__law_line_copy) rfl
  obtain ⟨fd__law_ascending, F__law_ascending⟩ := c.def_ 14 (d := d__law_ascending) rfl
  obtain ⟨fd__law_same_words, F__law_same_words⟩ := c.def_ 15 (d := d__law_same_words) rfl
  obtain ⟨fd__law_rests, F__law_rests⟩ := c.def_ 16 (d := d__law_rests) rfl
  obtain ⟨fd__law_unknown, F__law_unknown⟩ := c.def_ 17 (d := d__law_unknown) rfl
  obtain ⟨fd__law_keys_hold, F__law_keys_hold⟩ := c.def_ 18 (d := d__law_keys_hold) rfl
  obtain ⟨fd__law_long_holds, F__law_long_holds⟩ := c.def_ 19 (d := d__law_long_holds) rfl
  obtain ⟨fd_law, F_law⟩ := c.def_ 20 (d := d_law) rfl
  have e := hfa.symm.trans (He.glo_ok X G (c.fact 20 (f := .glo "law") rfl))
  cases e
  have b := FunD.bindsA (ps := ["_law_script"]) F_law fun _ _ _ _ _ _ us hl => match us, hl with | [_], _ => rfl
  have gl : ∀ x ∈ rsL, mg x = some (.ref (He.ga K x)) := by
    intro x hx
    simp only [rsL, List.mem_cons, List.not_mem_nil, or_false] at hx
    rcases hx with rfl
    · exact He.glo_ok X G (c.fact 21 (f := .glo "UnknownLine") rfl)
  have xc : ∀ x ∈ rsL, XcT R.prog K mg x := by
    intro x hx
    simp only [rsL, List.mem_cons, List.not_mem_nil, or_false] at hx
    rcases hx with rfl
    · exact cx.xc 0 (d := x_UnknownLine) rfl tx_UnknownLine (gl _ (by decide +kernel)) rfl
  have gc : ∀ y ∈ csL, y = "ValueError" ∧ mg y = none ∨ y ≠ "ValueError" ∧ mg y = some (.ref (He.ga K y)) := by
    intro y hy
    simp only [csL, List.mem_cons, List.not_mem_nil, or_false] at hy
    rcases hy with rfl | rfl | rfl | rfl | rfl
    · exact .inr ⟨by decide, He.glo_ok X G (c.fact 21 (f := .glo "UnknownLine") rfl)⟩
    · exact .inr ⟨by decide, He.glo_ok X G (c.fact 22 (f := .glo "UnknownKey") rfl)⟩
    · exact .inr ⟨by decide, He.glo_ok X G (c.fact 23 (f := .glo "BadLine") rfl)⟩
    · exact .inl ⟨rfl, He.free_ok X G (c.fact 25 (f := .free "ValueError") rfl)⟩
    · exact .inr ⟨by decide, He.glo_ok X G (c.fact 24 (f := .glo "DeskError") rfl)⟩
  have xt : XsT R.prog K mg rsL csL := cx.xst (He.free_ok X G (c.fact 37 (f := .free "super") rfl)) xc gl gc
  have C : Ev R.prog K mg := ⟨xt, ⟨_, fd_used_marks, F_used_marks, He.glo_ok X G (c.fact 0 (f := .glo "used_marks") rfl)⟩, ⟨_, fd_rests_on, F_rests_on, He.glo_ok X G (c.fact 1 (f := .glo "rests_on") rfl)⟩, ⟨_, fd__law_is_integer, F__law_is_integer, He.glo_ok X G (c.fact 2 (f := .glo "_law_is_integer") rfl)⟩, ⟨_, fd__law_stream, F__law_stream, He.glo_ok X G (c.fact 3 (f := .glo "_law_stream") rfl)⟩, ⟨_, fd__law_next, F__law_next, He.glo_ok X G (c.fact 4 (f := .glo "_law_next") rfl)⟩, ⟨_, fd__law_word, F__law_word, He.glo_ok X G (c.fact 5 (f := .glo "_law_word") rfl)⟩, ⟨_, fd__law_number, F__law_number, He.glo_ok X G (c.fact 6 (f := .glo "_law_number") rfl)⟩, ⟨_, fd__law_drawn_side, F__law_drawn_side, He.glo_ok X G (c.fact 7 (f := .glo "_law_drawn_side") rfl)⟩, ⟨_, fd__law_drawn_sides, F__law_drawn_sides, He.glo_ok X G (c.fact 8 (f := .glo "_law_drawn_sides") rfl)⟩, ⟨_, fd__law_drawn_certificate, F__law_drawn_certificate, He.glo_ok X G (c.fact 9 (f := .glo "_law_drawn_certificate") rfl)⟩, ⟨_, fd__law_log_line, F__law_log_line, He.glo_ok X G (c.fact 10 (f := .glo "_law_log_line") rfl)⟩, ⟨_, fd__law_certificate_copy, F__law_certificate_copy, He.glo_ok X G (c.fact 11 (f := .glo "_law_certificate_copy") rfl)⟩, ⟨_, fd__law_copied, F__law_copied, He.glo_ok X G (c.fact 12 (f := .glo "_law_copied") rfl)⟩, ⟨_, fd__law_line_copy, F__law_line_copy, He.glo_ok X G (c.fact 13 (f := .glo "_law_line_copy") rfl)⟩, ⟨_, fd__law_ascending, F__law_ascending, He.glo_ok X G (c.fact 14 (f := .glo "_law_ascending") rfl)⟩, ⟨_, fd__law_same_words, F__law_same_words, He.glo_ok X G (c.fact 15 (f := .glo "_law_same_words") rfl)⟩, ⟨_, fd__law_rests, F__law_rests, He.glo_ok X G (c.fact 16 (f := .glo "_law_rests") rfl)⟩, ⟨_, fd__law_unknown, F__law_unknown, He.glo_ok X G (c.fact 17 (f := .glo "_law_unknown") rfl)⟩, ⟨_, fd__law_keys_hold, F__law_keys_hold, He.glo_ok X G (c.fact 18 (f := .glo "_law_keys_hold") rfl)⟩, ⟨_, fd__law_long_holds, F__law_long_holds, He.glo_ok X G (c.fact 19 (f := .glo "_law_long_holds") rfl)⟩, He.free_ok X G (c.fact 25 (f := .free "ValueError") rfl), He.free_ok X G (c.fact 26 (f := .free "bool") rfl), He.free_ok X G (c.fact 27 (f := .free "dict") rfl), He.free_ok X G (c.fact 28 (f := .free "int") rfl), He.free_ok X G (c.fact 29 (f := .free "isinstance") rfl), He.free_ok X G (c.fact 30 (f := .free "len") rfl), He.free_ok X G (c.fact 31 (f := .free "list") rfl), He.free_ok X G (c.fact 32 (f := .free "max") rfl), He.free_ok X G (c.fact 33 (f := .free "min") rfl), He.free_ok X G (c.fact 34 (f := .free "range") rfl), He.free_ok X G (c.fact 35 (f := .free "sorted") rfl), He.free_ok X G (c.fact 36 (f := .free "str") rfl), He.free_ok X G (c.fact 37 (f := .free "super") rfl), He.free_ok X G (c.fact 38 (f := .free "zip") rfl)⟩
  exact ⟨fd_law, fun s v => b s [v] rfl, fun base _ _ => ok_law C F_law⟩
end My
end
set_option maxHeartbeats 0
open PySem PySem.W PySem.Calls PyProof.Rows
theorem PySem.Challenge.cw_curbdesk_k46_rests_on_holds : PySem.Challenge.rw_curbdesk_k46_rests_on.Holds := by
  w_on; o_law
  refine HandSHeadRun.head_any (r := OpenLaw.row PySem.Challenge.rw_curbdesk_k46_rests_on) (q := view (OpenLaw.row PySem.Challenge.rw_curbdesk_k46_rests_on).prog [27]) (H := My.hk) (ob := My.ob) (M := 30000) (loose := My.loose) (d := HandSHeadRun.topDef (OpenLaw.row PySem.Challenge.rw_curbdesk_k46_rests_on).prog 27) (kwd := []) My.ob_eq
    (by kernel_rfl) (fun s => by kernel_rfl) My.run (by kernel_rfl) (by kernel_rfl) (by kernel_rfl) (by rfl) (by first | assumption | decide +kernel) (by decide +kernel) ⟨rfl, rfl, rfl, rfl, rfl, by decide +kernel⟩ ?hw ?hc
  case hw => w_witness2
  case hc =>
    refine L2.walk_ofE (l := PySem.Challenge.rw_curbdesk_k46_rests_on) (n := 63) (k := 5) (x := "_law_script") (CX := L2.CX0) rfl (by decide) (by kernel_rfl) ⟨rfl, by decide, by decide⟩ ?F (fun _ _ _ _ z => z)
    intro w mg fa h Y G hmg0
    obtain ⟨K, KX, c⟩ := Y
    have hmg : mg ("law" : PySem.Str) = some (.ref fa) := by
      have e : (HandSHeadRun.topDef (OpenLaw.row PySem.Challenge.rw_curbdesk_k46_rests_on).prog 27).name = ("law" : PySem.Str) := by kernel_rfl
      rw [← e]
      exact hmg0
    obtain ⟨fd, hb, hF⟩ := My.facts (w := w) KX G hmg c
    exact ⟨K, fd, L3.Sp_S K My.M_law, KX, hb, fun H a ns hl _ hS => ⟨a, ns, rfl, Nat.le_trans hl (by decide), hS, true, My.law_ok ns, fun _ => rfl⟩, hF⟩
