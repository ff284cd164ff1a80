import PyProof.Rows.All
import Wide.All
import OpenK.AllK
import Wide.FinOn
import KE.KStateDown
import HandS.ForMost
import HandS.Flow
import HandS.Style
import HandS.IsInst
import HandS.Strs
import HandS.SortInts
import HandS.Defaults
import HandS.MakeKwOnly
import HandS.SetFor
import HandS.More
import HandS.Finally
import HandS.DictComp
import HandS.DictEq
import HandS.DeepEq
import HandS.Iter
import HandS.ListEq
import PyProof.NeKinds
import HandS.ExcInit
import KE.KExcSuper
import HandS.ForExc
import HandS.ExcField
import HandS.ExcIs
import KE.KExcIs
import HandS.Wide
import HandS.Exc
import HandS.HeadHook1
import HandS.HeadHook2
import KE.KEqNest
import HandS.Deep
import HandS.Property
import HandS.TupAny
import HandS.Zip
import HandS.Conv
import HandS.Sort
import KE.DatumOrd
import PyProof.P3In
import PyProof.Rows.RowBridgeK
import PyProof.Draws
import HandS.Zip0
import HandS.MakeKw
import HandS.Rev
import HandS.HotCalls
import KE.DataCmp
import HandS.TupSets
import HandS.TupLe
import HandS.RevRange
import KE.KDictSum
import HandS.Head0
import HandS.Head1
import HandS.Head2
import HandS.HeadEnd
import PySem.Challenge.RW_curbdesk_k16_history
set_option Elab.async false
set_option linter.all false
set_option maxRecDepth 100000
section
set_option maxHeartbeats 4000000
namespace L3
open PySem PySem.Spec PyProof.Rows L2
abbrev SS := L2.St
def Pst : HO → Prop
  | .frz _ _ => True
  | .tup _ => True
  | .xd _ => True
  | _ => False
def Fzs (H H' : Hp) : Prop := ∀ a o, Pst o → H a = some o → H' a = some o
theorem Fzs.trans {H H1 H2 : Hp} (a : Fzs H H1) (b : Fzs H1 H2) : Fzs H H2 := fun x o p h => b x o p (a x o p h)
def Gr (H H' : Hp) : Prop := ∀ a o, H a = some o → H' a = some o
theorem Gr.trans {H H1 H2 : Hp} (a : Gr H H1) (b : Gr H1 H2) : Gr H H2 := fun x o h => b x o (a x o h)
theorem Gr.fzs {H H' : Hp} (g : Gr H H') : Fzs H H' := fun a o _ h => g a o h
theorem Gr.new {H : Hp} {p : Addr} {o : HO} (h : H p = none) : Gr H (upd H p o) := fun a u e => by
  rw [upd_ne (ne_of_none e h)]; exact e
theorem Mut.npst {o : HO} (m : Mut (some o)) : ¬ Pst o := by
  cases o <;> first | exact fun z => z | exact fun _ => m
structure Pd where
  pr : Hp → V → Prop
  mono : ∀ {H H' : Hp} {v : V}, Fzs H H' → pr H v → pr H' v
def pInt (i : Int) : Pd := ⟨fun _ v => v = .int i, fun _ h => h⟩
def pStr (x : Str) : Pd := ⟨fun _ v => v = .str x, fun _ h => h⟩
theorem paired_mono {α β : Type} {P Q : α → β → Prop} : ∀ {l₁ : List α} {l₂ : List β}, (∀ a b, P a b → Q a b) → Paired P l₁ l₂ → Paired Q l₁ l₂
  | _, _, _, .nil => .nil
  | _, _, f, .cons r t => .cons (f _ _ r) (paired_mono f t)
def pL {α : Type} (E : α → Pd) (xs : List α) : Pd where
  pr H v := ∃ a o vs, v = .ref a ∧ H a = some (.frz o (.lst vs)) ∧ xs.length ≤ sizeLine ∧ Paired (fun x u => (E x).pr H u) xs vs
  mono := fun f ⟨a, o, vs, e, h, z, p⟩ => ⟨a, o, vs, e, f _ _ trivial h, z, paired_mono (fun x _ => (E x).mono f) p⟩
def pTL {α : Type} (E : α → Pd) (xs : List α) : Pd where
  pr H v := ∃ a vs, v = .ref a ∧ H a = some (.tup vs) ∧ xs.length ≤ sizeLine ∧ Paired (fun x u => (E x).pr H u) xs vs
  mono := fun f ⟨a, vs, e, h, z, p⟩ => ⟨a, vs, e, f _ _ trivial h, z, paired_mono (fun x _ => (E x).mono f) p⟩
def tLk : List Addr → (Hp → Prop) → Hp → Prop
  | [], Φ, H => Φ H
  | d :: G, Φ, H => ∃ u, H d = some u ∧ Mut (some u) ∧ ∀ o, tLk G Φ (upd H d (.frz o u))
theorem tLk.mono {Φ Ψ : Hp → Prop} (f : ∀ H, Φ H → Ψ H) : ∀ {G : List Addr} {H : Hp}, tLk G Φ H → tLk G Ψ H
  | [], _, h => f _ h
  | _ :: _, _, ⟨u, h, m, k⟩ => ⟨u, h, m, fun o => tLk.mono f (k o)⟩
structure Od where
  pr : List Addr → Hp → V → Prop
  pd : Pd
  frame : ∀ {G : List Addr} {H H' : Hp} {v : V}, pr G H v → (∀ a ∈ G, ∀ o, H a = some o → H' a = some o) → Fzs H H' → pr G H' v
  cells : ∀ {G : List Addr} {H : Hp} {v : V}, pr G H v → ∀ a ∈ G, ∃ o, H a = some o ∧ Mut (some o)
  lockd : ∀ {G : List Addr} {H H1 : Hp} {v : V}, pr G H v → (∀ a, a ∉ G → H1 a = H a) → (∀ a ∈ G, ∀ u, H a = some u → ∃ o, H1 a = some (.frz o u)) → pd.pr H1 v
theorem tLk_of {Φ : Hp → Prop} : ∀ {G : List Addr} {H : Hp}, G.Nodup → (∀ a ∈ G, ∃ u, H a = some u ∧ Mut (some u)) → (∀ H1, (∀ a, a ∉ G → H1 a = H a) → (∀ a ∈ G, ∀ u, H a = some u → ∃ o, H1 a = some (.frz o u)) → Φ H1) → tLk G Φ H
  | [], H, _, _, k => k H (fun _ _ => rfl) fun _ h => absurd h List.not_mem_nil
  | d :: G, H, nd, hm, k => by
    obtain ⟨nd1, nd2⟩ := List.nodup_cons.mp nd
    obtain ⟨u, hu, mu⟩ := hm d List.mem_cons_self
    refine ⟨u, hu, mu, fun o => tLk_of nd2 (fun a ha => ?_) fun H1 h1 h2 => k H1 (fun a ha => ?_) fun a ha w hw => ?_⟩
    · rw [upd_ne (fun e => nd1 (by rw [← e]; exact ha))]
      exact hm a (List.mem_cons_of_mem _ ha)
    · rw [h1 a (fun z => ha (List.mem_cons_of_mem _ z)), upd_ne (fun e => ha (by rw [e]; exact List.mem_cons_self))]
    · by_cases e : a = d
      · subst e
        rw [hu] at hw
        cases hw
        exact ⟨o, by rw [h1 a nd1, upd_same]⟩
      · rcases List.mem_cons.mp ha with z | z
        · exact absurd z e
        · exact h2 a z w (by rw [upd_ne e]; exact hw)
theorem Od.cellsN (d : Od) {G : List Addr} {H : Hp} {v : V} (h : d.pr G H v) : ∀ a ∈ G, ∃ o, H a = some o ∧ ¬ Pst o := fun a ha => by
  obtain ⟨o, e, m⟩ := d.cells h a ha
  exact ⟨o, e, Mut.npst m⟩
theorem Od.lock (d : Od) {G : List Addr} {H : Hp} {v : V} {Φ : Hp → Prop} (h : d.pr G H v) (nd : G.Nodup) (k : ∀ H', (∀ a, a ∉ G → H' a = H a) → (∀ a o, H a = some o → ∃ u, H' a = some u) → d.pd.pr H' v → Φ H') : tLk G Φ H :=
  tLk_of nd (d.cells h) fun H1 h1 h2 => k H1 h1 (fun a o e => by
    by_cases ha : a ∈ G
    · obtain ⟨q, hq⟩ := h2 a ha o e
      exact ⟨_, hq⟩
    · exact ⟨o, by rw [h1 a ha]; exact e⟩) (d.lockd h h1 h2)
structure Cel where
  G : List Addr
  v : V
  d : Od
  prm : Option Nat
structure Cell where
  v : V
  d : Od
  prm : Option Nat
def Cel.fg (c : Cel) : Cell := ⟨c.v, c.d, c.prm⟩
structure Fm where
  H0 : Hp
  M : List (List Addr)
abbrev Gm := List (Option Pd)
abbrev Δs := List Cell
def cellsOf (Δ : List Cel) : List Addr := Δ.flatMap Cel.G
structure HkO (F : Fm) (Δ : List Cel) (H : Hp) : Prop where
  base : ∀ a o, F.H0 a = some o → (∀ m ∈ F.M, a ∉ m) → H a = some o
  del : ∀ c ∈ Δ, c.d.pr c.G H c.v
  nod : (cellsOf Δ).Nodup
  own : ∀ c ∈ Δ, ∀ a ∈ c.G, F.H0 a = none ∨ ∃ i m, c.prm = some i ∧ F.M[i]? = some m ∧ a ∈ m
  mem : ∀ m ∈ F.M, ∀ a ∈ m, ∃ o, H a = some o
def Hk (F : Fm) (Δ : Δs) (H : Hp) : Prop := ∃ Δ0 : List Cel, Δ0.map Cel.fg = Δ ∧ HkO F Δ0 H
structure Nm (Γ : Gm) (σ : SS) (H : Hp) : Prop where
  len : σ.length = Γ.length
  gam : ∀ (i : Nat) (p : Pd), Γ[i]? = some (some p) → ∃ v, σ[i]? = some (some v) ∧ p.pr H v
theorem Nm.mono {Γ : Gm} {σ : SS} {H H' : Hp} (k : Nm Γ σ H) (f : Fzs H H') : Nm Γ σ H' := ⟨k.len, fun i p e => by
  obtain ⟨v, h, q⟩ := k.gam i p e
  exact ⟨v, h, p.mono f q⟩⟩
structure Ok (F : Fm) (Γ : Gm) (Δ : Δs) (σ : SS) (H : Hp) : Prop where
  hk : Hk F Δ H
  nm : Nm Γ σ H
theorem Ok.gam {F : Fm} {Γ : Gm} {Δ : Δs} {σ : SS} {H : Hp} (k : Ok F Γ Δ σ H) : ∀ (i : Nat) (p : Pd), Γ[i]? = some (some p) → ∃ v, σ[i]? = some (some v) ∧ p.pr H v := k.nm.gam
theorem Ok.len {F : Fm} {Γ : Gm} {Δ : Δs} {σ : SS} {H : Hp} (k : Ok F Γ Δ σ H) : σ.length = Γ.length := k.nm.len
theorem mem_cellsOf {Δ : List Cel} {c : Cel} {a : Addr} (h : c ∈ Δ) (ha : a ∈ c.G) : a ∈ cellsOf Δ := List.mem_flatMap.mpr ⟨c, h, ha⟩
theorem cellsOf_cons (c : Cel) (Δ : List Cel) : cellsOf (c :: Δ) = c.G ++ cellsOf Δ := by unfold cellsOf; rw [List.flatMap_cons]
theorem HkO.isC {F : Fm} {Δ : List Cel} {H : Hp} (k : HkO F Δ H) {a : Addr} (h : a ∈ cellsOf Δ) : ∃ o, H a = some o ∧ ¬ Pst o := by
  obtain ⟨c, hc, ha⟩ := List.mem_flatMap.mp h
  exact c.d.cellsN (k.del c hc) a ha
theorem HkO.fresh0 {F : Fm} {Δ : List Cel} {H : Hp} (k : HkO F Δ H) {a : Addr} (h : H a = none) : F.H0 a = none := by
  have hm : ∀ m ∈ F.M, a ∉ m := fun m hm z => by
    obtain ⟨o, e⟩ := k.mem m hm a z
    rw [h] at e; cases e
  cases e : F.H0 a with
  | none => rfl
  | some o => rw [k.base a o e hm] at h; cases h
theorem HkO.cons {F : Fm} {Δ : List Cel} {H : Hp} (k : HkO F Δ H) {c : Cel} (nd : c.G.Nodup) (nw : ∀ a ∈ c.G, a ∉ cellsOf Δ) (h : c.d.pr c.G H c.v) (ho : ∀ a ∈ c.G, F.H0 a = none ∨ ∃ i m, c.prm = some i ∧ F.M[i]? = some m ∧ a ∈ m) : HkO F (c :: Δ) H := by
  refine ⟨k.base, fun x hc => ?_, ?_, fun x hc a ha => ?_, k.mem⟩
  · rcases List.mem_cons.mp hc with e | hc
    · subst e; exact h
    · exact k.del x hc
  · rw [cellsOf_cons]
    refine List.nodup_append.mpr ⟨nd, k.nod, fun a ha b hb e => ?_⟩
    subst e
    exact nw a ha hb
  · rcases List.mem_cons.mp hc with e | hc
    · subst e; exact ho a ha
    · exact k.own x hc a ha
def OkN (W : Bool) (F : Fm) (Γ : Gm) (H : Hp) (v : V) (d : Od) (Δ : Δs) (σ : SS) (H' : Hp) : Prop := ∃ (Δ0 : List Cel) (G : List Addr), Δ0.map Cel.fg = Δ ∧ HkO F (⟨G, v, d, none⟩ :: Δ0) H' ∧ (W = false → ∀ a ∈ G, H a = none) ∧ Nm Γ σ H'
theorem OkN.ok {W : Bool} {F : Fm} {Γ : Gm} {Δ : Δs} {σ : SS} {H H' : Hp} {v : V} {d : Od} (k : OkN W F Γ H v d Δ σ H') : Ok F Γ (⟨v, d, none⟩ :: Δ) σ H' := by
  obtain ⟨Δ0, G, e, k, _, n⟩ := k
  exact ⟨⟨_, by rw [List.map_cons, e]; rfl, k⟩, n⟩
end L3
end
section
set_option maxHeartbeats 4000000
set_option autoImplicit true
namespace L3
open PySem PySem.Spec PyProof.Rows L2
structure St (W : Bool) (H H' : Hp) : Prop where
  fz : Fzs H H'
  kp : W = false → Gr H H'
  dom : ∀ a o, H a = some o → ∃ u, H' a = some u
theorem St.trans {W : Bool} {H H1 H2 : Hp} (a : St W H H1) (b : St W H1 H2) : St W H H2 := ⟨a.fz.trans b.fz, fun n => (a.kp n).trans (b.kp n), fun x o h => by
  obtain ⟨u, e⟩ := a.dom x o h
  exact b.dom x u e⟩
theorem St.back {W : Bool} {H H' : Hp} (s : St W H H') {a : Addr} (h : H' a = none) : H a = none := by
  cases e : H a with
  | none => rfl
  | some o =>
    obtain ⟨u, q⟩ := s.dom a o e
    rw [h] at q; cases q
theorem Gr.st {W : Bool} {H H' : Hp} (g : Gr H H') : St W H H' := ⟨g.fzs, fun _ => g, fun a o h => ⟨o, g a o h⟩⟩
structure Fn (γ : Type) where
  fin : Hp → γ → Ends → Prop
  mono : ∀ {H H' : Hp} {g : γ} {D : Ends}, fin H g D → Fzs H H' → fin H' g D
section
variable {X : Cx}
variable {W : Bool} {F : Fm} {Γ : Gm} {Δ : Δs} {γ : Type}
section
variable {e a b : Expr} {r : R2} {β1 β2 : Type} {T : Option γ} {k1 : β1 → Option γ} {k2 : β1 → β2 → Option γ} {E1 : β1 → Pd} {E2 : β1 → β2 → Pd} {Δ1 : β1 → Δs} {Δ2 : β1 → β2 → Δs}
end
section
variable {e a b : Expr} {r : R2} {β1 β2 : Type} {T : Option γ} {k1 : β1 → Option γ} {k2 : β1 → β2 → Option γ} {E1 : β1 → Pd} {E2 : β1 → β2 → Pd} {Δ1 : β1 → Δs} {Δ2 : β1 → β2 → Δs}
end
section
variable {a b : Expr} {pos : Pos} {β1 β2 : Type} {T : Option γ} {k1 : β1 → Option γ} {k : β1 × β2 → Option γ} {Δ1 : β1 → Δs} {Δ2 : β1 → β2 → Δs} {i : β1 → Int} {j : β1 → β2 → Int}
end
end
end L3
end
section
set_option maxHeartbeats 4000000
namespace L3
open PySem PySem.Spec PyProof.Rows L2
theorem flat_perm {Δ Δ' : List Cel} (p : Δ.Perm Δ') : (cellsOf Δ).Perm (cellsOf Δ') := by
  unfold cellsOf
  exact p.flatMap_right _
theorem HkO.perm {F : Fm} {Δ Δ' : List Cel} {H : Hp} (k : HkO F Δ H) (p : Δ.Perm Δ') : HkO F Δ' H :=
  ⟨k.base, fun c hc => k.del c (p.mem_iff.mpr hc), (flat_perm p).nodup_iff.mp k.nod, fun c hc => k.own c (p.mem_iff.mpr hc), k.mem⟩
theorem HkO.ndup {F : Fm} {c : Cel} {Δ : List Cel} {H : Hp} (k : HkO F (c :: Δ) H) : c.G.Nodup ∧ (cellsOf Δ).Nodup ∧ ∀ a ∈ c.G, a ∉ cellsOf Δ := by
  have h := k.nod
  rw [cellsOf_cons] at h
  obtain ⟨h1, h2, h3⟩ := List.nodup_append.mp h
  exact ⟨h1, h2, fun a ha hb => h3 a ha a hb rfl⟩
theorem HkO.rest {F : Fm} {c : Cel} {R : List Cel} {H H' : Hp} (k : HkO F (c :: R) H) (kp : ∀ a o, a ∉ c.G → H a = some o → H' a = some o) (dm : ∀ a ∈ c.G, ∃ o, H' a = some o) : HkO F R H' ∧ Fzs H H' ∧ ∀ a o, H a = some o → ∃ u, H' a = some u := by
  have fz : Fzs H H' := fun a o p e => kp a o (fun ha => by
    obtain ⟨u, eu, nu⟩ := c.d.cellsN (k.del c List.mem_cons_self) a ha
    rw [e] at eu
    cases eu
    exact nu p) e
  have dom : ∀ a o, H a = some o → ∃ u, H' a = some u := fun a o e => by
    by_cases ha : a ∈ c.G
    · exact dm a ha
    · exact ⟨o, kp a o ha e⟩
  refine ⟨⟨fun a o e m => ?_, fun x hx => ?_, k.ndup.2.1, fun x hx => k.own x (List.mem_cons_of_mem _ hx), fun m hm a ha => ?_⟩, fz, dom⟩
  · refine kp a o (fun ha => ?_) (k.base a o e m)
    rcases k.own c List.mem_cons_self a ha with z | ⟨i, w, _, hw, z⟩
    · rw [e] at z; cases z
    · exact m w (List.mem_of_getElem? hw) z
  · exact x.d.frame (k.del x (List.mem_cons_of_mem _ hx)) (fun a ha o q => kp a o (fun hc => k.ndup.2.2 a hc (mem_cellsOf hx ha)) q) fz
  · obtain ⟨o, e⟩ := k.mem m hm a ha
    exact dom a o e
theorem HkO.turn {F : Fm} {c : Cel} {R : List Cel} {H H' : Hp} {G' : List Addr} {d' : Od} (k : HkO F (c :: R) H) (kp : ∀ a o, a ∉ c.G → H a = some o → H' a = some o) (dm : ∀ a ∈ c.G, ∃ o, H' a = some o) (nd : G'.Nodup) (sb : ∀ a ∈ G', a ∈ c.G ∨ H a = none) (new : d'.pr G' H' c.v) :
    HkO F (⟨G', c.v, d', c.prm⟩ :: R) H' ∧ Fzs H H' ∧ ∀ a o, H a = some o → ∃ u, H' a = some u := by
  obtain ⟨r, fz, dom⟩ := k.rest kp dm
  refine ⟨r.cons (c := ⟨G', c.v, d', c.prm⟩) nd (fun a ha hb => ?_) new (fun a ha => ?_), fz, dom⟩
  · rcases sb a ha with h | h
    · exact k.ndup.2.2 a h hb
    · obtain ⟨o, e, _⟩ := k.isC (a := a) (by rw [cellsOf_cons]; exact List.mem_append_right _ hb)
      rw [h] at e; cases e
  · rcases sb a ha with h | h
    · exact k.own c List.mem_cons_self a h
    · exact .inl (k.fresh0 h)
theorem map_at {Δ0 : List Cel} {j : Nat} {c : Cell} (h : (Δ0.map Cel.fg)[j]? = some c) : ∃ A x B, Δ0 = A ++ x :: B ∧ A.length = j ∧ x.fg = c := by
  rw [List.getElem?_map] at h
  cases e : Δ0[j]? with
  | none => rw [e] at h; cases h
  | some x =>
    rw [e] at h
    have hl : j < Δ0.length := by
      by_cases hl : j < Δ0.length
      · exact hl
      · rw [List.getElem?_eq_none (by omega)] at e; cases e
    refine ⟨Δ0.take j, x, Δ0.drop (j + 1), ?_, by rw [List.length_take]; omega, by simpa using h⟩
    rw [List.getElem?_eq_getElem hl] at e
    cases e
    rw [← List.drop_eq_getElem_cons hl, List.take_append_drop]
theorem mid_perm {A B : List Cel} {x : Cel} : (A ++ x :: B).Perm (x :: (A ++ B)) := List.perm_middle
theorem map_set {A B : List Cel} {x y : Cel} : (A ++ y :: B).map Cel.fg = ((A ++ x :: B).map Cel.fg).set A.length y.fg := by
  simp
theorem map_erase {A B : List Cel} {x : Cel} : (A ++ B).map Cel.fg = ((A ++ x :: B).map Cel.fg).eraseIdx A.length := by
  rw [List.map_append, List.map_append, List.map_cons, List.eraseIdx_append_of_length_le (by rw [List.length_map]; exact Nat.le_refl _), List.length_map, Nat.sub_self]
  rfl
section
variable {F : Fm} {Γ : Gm} {Δ : Δs} {σ : SS} {H : Hp} {j : Nat} {c : Cell}
theorem Ok.cellG (k : Ok F Γ Δ σ H) (hj : Δ[j]? = some c) : ∃ G, c.d.pr G H c.v ∧ G.Nodup ∧ ∀ H' d' G', (∀ a o, a ∉ G → H a = some o → H' a = some o) → (∀ a ∈ G, ∃ o, H' a = some o) → G'.Nodup → (∀ a ∈ G', a ∈ G ∨ H a = none) → d'.pr G' H' c.v →
    Ok F Γ (Δ.set j { c with d := d' }) σ H' ∧ St true H H' := by
  obtain ⟨⟨Δ0, e, k⟩, n⟩ := k
  subst e
  obtain ⟨A, x, B, e0, el, ex⟩ := map_at hj
  subst e0
  subst ex
  have k1 := k.perm mid_perm
  refine ⟨x.G, k1.del x List.mem_cons_self, k1.ndup.1, fun H' d' G' kp dm nd sb new => ?_⟩
  obtain ⟨k2, fz, dom⟩ := k1.turn kp dm nd sb new
  refine ⟨⟨⟨A ++ ⟨G', x.v, d', x.prm⟩ :: B, ?_, k2.perm mid_perm.symm⟩, n.mono fz⟩, fz, (fun h => nomatch h), dom⟩
  rw [← el]
  exact map_set
theorem Ok.cell (k : Ok F Γ Δ σ H) (hj : Δ[j]? = some c) : ∃ G, c.d.pr G H c.v ∧ G.Nodup ∧ ∀ H' d', (∀ a o, a ∉ G → H a = some o → H' a = some o) → d'.pr G H' c.v → Ok F Γ (Δ.set j { c with d := d' }) σ H' ∧ St true H H' := by
  obtain ⟨G, p, nd, t⟩ := k.cellG hj
  exact ⟨G, p, nd, fun H' d' kp new => t H' d' G kp (fun a ha => by
    obtain ⟨o, e, _⟩ := d'.cellsN new a ha
    exact ⟨o, e⟩) nd (fun a ha => .inl ha) new⟩
theorem Ok.at (k : Ok F Γ Δ σ H) (hj : Δ[j]? = some c) : ∃ G, c.d.pr G H c.v := by
  obtain ⟨G, p, _⟩ := k.cell hj
  exact ⟨G, p⟩
theorem Hk.at (k : Hk F Δ H) (hj : Δ[j]? = some c) : ∃ G, c.d.pr G H c.v := by
  obtain ⟨Δ0, e, k⟩ := k
  subst e
  obtain ⟨A, x, B, e0, el, ex⟩ := map_at hj
  subst e0
  subst ex
  exact ⟨x.G, k.del x (by simp)⟩
end
def tLkX (Φ : Hp → Prop) (H : Hp) : Prop := ∃ G, tLk G Φ H
theorem HkO.frz {F : Fm} {c : Cel} {R : List Cel} {H : Hp} (k : HkO F (c :: R) H) {Φ : Hp → Prop} (q : ∀ H', Fzs H H' → (∀ a, a ∉ c.G → H' a = H a) → (∀ a o, H a = some o → ∃ u, H' a = some u) → HkO F R H' → c.d.pd.pr H' c.v → Φ H') : tLk c.G Φ H := by
  refine c.d.lock (k.del c List.mem_cons_self) k.ndup.1 fun H' kp dom p => ?_
  obtain ⟨r, fz, _⟩ := k.rest (H' := H') (fun a o na e => by rw [kp a na]; exact e) (fun a ha => by
    obtain ⟨o, e, _⟩ := c.d.cellsN (k.del c List.mem_cons_self) a ha
    exact dom a o e)
  exact q H' fz kp dom r p
theorem Ok.frz {F : Fm} {Γ : Gm} {Δ : Δs} {σ : SS} {H : Hp} {j : Nat} {c : Cell} (k : Ok F Γ Δ σ H) (hj : Δ[j]? = some c) {Φ : Hp → Prop} (q : ∀ H', St true H H' → Ok F Γ (Δ.eraseIdx j) σ H' → c.d.pd.pr H' c.v → Φ H') : tLkX Φ H := by
  obtain ⟨⟨Δ0, e, k⟩, n⟩ := k
  subst e
  obtain ⟨A, x, B, e0, el, ex⟩ := map_at hj
  subst e0
  subst ex
  refine ⟨x.G, (k.perm mid_perm).frz fun H' f kp dom h p => q H' ⟨f, (fun h => nomatch h), dom⟩ ⟨⟨A ++ B, ?_, h⟩, n.mono f⟩ p⟩
  rw [← el]
  exact map_erase
theorem OkN.frz {F : Fm} {Γ : Gm} {Δ : Δs} {σ : SS} {H0 H : Hp} {v : V} {d : Od} {W : Bool} (k : OkN W F Γ H0 v d Δ σ H) (s0 : St W H0 H) {Φ : Hp → Prop} (q : ∀ H', St W H0 H' → Ok F Γ Δ σ H' → d.pd.pr H' v → Φ H') : tLkX Φ H := by
  obtain ⟨Δ0, G, e, k, nw, n⟩ := k
  refine ⟨G, k.frz fun H' f kp dom h p => q H' ⟨s0.fz.trans f, fun hW a o ea => ?_, fun a o ea => ?_⟩ ⟨⟨Δ0, e, h⟩, n.mono f⟩ p⟩
  · rw [kp a fun ha => ?_]
    · exact s0.kp hW a o ea
    · rw [nw hW a ha] at ea; cases ea
  · obtain ⟨u, eu⟩ := s0.dom a o ea
    exact dom a u eu
theorem Ok.set {F : Fm} {Γ : Gm} {Δ : Δs} {σ : SS} {H : Hp} {i : Nat} {p : Pd} {v : V} (k : Ok F Γ Δ σ H) (hp : p.pr H v) : Ok F (Γ.set i (some p)) Δ (σ.set i (some v)) H :=
  ⟨k.hk, by rw [List.length_set, List.length_set]; exact k.len, fun j q e => by
    by_cases h : j = i
    · subst h
      by_cases hl : j < Γ.length
      · rw [List.getElem?_set_self hl] at e
        cases e
        exact ⟨v, List.getElem?_set_self (by rw [k.len]; exact hl), hp⟩
      · rw [List.getElem?_eq_none (by rw [List.length_set]; omega)] at e
        cases e
    · rw [List.getElem?_set_ne (fun z => h z.symm)] at e
      obtain ⟨w, hs, hq⟩ := k.gam j q e
      exact ⟨w, by rw [List.getElem?_set_ne (fun z => h z.symm)]; exact hs, hq⟩⟩
def SubG : Gm → Gm → Prop
  | [], [] => True
  | none :: g', _ :: g => SubG g' g
  | some p :: g', some q :: g => p = q ∧ SubG g' g
  | _, _ => False
theorem SubG.len : ∀ {g' g : Gm}, SubG g' g → g'.length = g.length
  | [], [], _ => rfl
  | none :: g', _ :: g, h => congrArg (· + 1) (SubG.len (g' := g') (g := g) h)
  | some p :: g', some q :: g, h => congrArg (· + 1) (SubG.len (g' := g') (g := g) h.2)
  | [], _ :: _, h => h.elim
  | some _ :: _, [], h => h.elim
  | none :: _, [], h => h.elim
  | some _ :: _, none :: _, h => h.elim
end L3
end
section
set_option maxHeartbeats 4000000
namespace L3
open PySem PySem.Spec PyProof.Rows L2
section
variable {X : Cx} {W : Bool} {F : Fm} {Γ : Gm} {Δ : Δs} {γ : Type}
section
variable {e a : Expr} {r : V → Hp → VK → Prop} {β : Type} {T : Option γ} {E1 : β → Pd} {Δ1 : β → Δs}
end
variable {γ : Type} {N : Fn γ} {rest : List Stmt}
end
end L3
end
section
set_option maxHeartbeats 4000000
set_option autoImplicit true
namespace L3
open PySem PySem.Spec PyProof.Rows L2
section
variable {X : Cx} {W : Bool} {F : Fm} {Γ : Gm} {Δ : Δs} {γ : Type}
section
variable {a b : Expr} {rest : List Expr} {pos : Pos} {c1 c2 : Bool} {T : Option γ}
end
section
variable {a b : Expr} {rest : List Expr} {pos : Pos} {β1 β2 S : Type} {T : Option γ} {c1 : β1 → Bool} {c2 : β1 → β2 → Bool} {Δ1 : β1 → Δs} {Δ2 : β1 → β2 → Δs} {T2 : β1 → Option (Bool × S)} {s1 : β1 → S} {s2 : β1 → β2 → S} {ΔS : β1 → S → Δs} {k : β1 × (Bool × S) → Option γ}
end
abbrev Cxt := Gm × Δs
def nxOk (F : Fm) (c : Cxt) (H : Hp) (n : SS → Hp → Prop) : Prop := ∀ σ' H', Fzs H H' → Ok F c.1 c.2 σ' H' → n σ' H'
theorem nxOk.mono {F : Fm} {c : Cxt} {H H' : Hp} {n : SS → Hp → Prop} (h : nxOk F c H n) (f : Fzs H H') : nxOk F c H' n := fun σ1 H1 f1 => h σ1 H1 (f.trans f1)
variable {N : Fn γ} {rest : List Stmt}
section
variable {ce : Expr} {A B : List Stmt} {pos : Pos} {β : Type} {T : Option γ} {c : β → Bool} {Δ' : β → Δs}
end
end
end L3
end
section
set_option maxHeartbeats 4000000
namespace L3
open PySem PySem.Spec PyProof.Rows L2
section
variable {X : Cx} {W : Bool} {F : Fm} {Γ : Gm} {Δ : Δs} {γ : Type}
def RL {α : Type} (E : α → Pd) (xs : List α) (H : Hp) (v : V) : Prop := ∃ a vs, v = .ref a ∧ Rd H a (.lst vs) ∧ xs.length ≤ sizeLine ∧ Paired (fun x u => (E x).pr H u) xs vs
theorem RL.sq {α : Type} {E : α → Pd} {xs : List α} {H : Hp} {v : V} {K : PySem.W.Frag} (h : RL E xs H v) : ∃ a vs, v = .ref a ∧ SqL K H a vs ∧ xs.length ≤ sizeLine ∧ Paired (fun x u => (E x).pr H u) xs vs := by
  obtain ⟨a, vs, e, r, z, p⟩ := h
  exact ⟨a, vs, e, .inl r, z, p⟩
section
variable {a b : Expr} {pos : Pos} {β1 β2 α : Type} {T : Option γ} {k1 : β1 → Option γ} {Δ1 : β1 → Δs} {Δ2 : β1 → β2 → Δs} {E1 : β1 → Pd} {Ee : α → Pd} {xs : β1 → β2 → List α} {j : β1 → β2 → Int}
end
section
variable {a : Expr} {pos p : Pos} {β α : Type} {T : Option γ} {Δ1 : β → Δs} {E1 : β → Pd} {Ee : α → Pd} {xs : β → List α} {k : β → Option γ}
end
section
variable {N : Fn γ} {rest : List Stmt}
end
end
end L3
end
section
set_option maxHeartbeats 4000000
namespace L3
open PySem PySem.Spec PyProof.Rows L2
section
variable {F : Fm} {Γ : Gm} {Δ : Δs} {σ : SS} {H H' : Hp} {W : Bool}
end
end L3
end
section
set_option maxHeartbeats 4000000
namespace L3
open PySem PySem.Spec PyProof.Rows L2
end L3
end
section
set_option maxHeartbeats 4000000
namespace L3
open PySem PySem.Spec PyProof.Rows L2
section
variable {X : Cx} {W : Bool} {F : Fm} {Γ : Gm} {Δ : Δs} {γ : Type}
variable {N : Fn γ} {rest : List Stmt}
end
end L3
end
section
set_option maxHeartbeats 4000000
namespace L3
open PySem PySem.Spec PyProof.Rows L2
theorem Hk.cell {F : Fm} {Δ : Δs} {H : Hp} {j : Nat} {c : Cell} (k : Hk F Δ H) (hj : Δ[j]? = some c) : ∃ G, c.d.pr G H c.v ∧ G.Nodup ∧ ∀ H' d', (∀ a o, a ∉ G → H a = some o → H' a = some o) → d'.pr G H' c.v → Hk F (Δ.set j { c with d := d' }) H' ∧ St true H H' := by
  have k2 : Ok F [] Δ [] H := ⟨k, rfl, fun i p e => by cases e⟩
  obtain ⟨G, p, nd, t⟩ := k2.cell hj
  exact ⟨G, p, nd, fun H' d' kp new => ⟨(t H' d' kp new).1.hk, (t H' d' kp new).2⟩⟩
section
variable {X : Cx} {W : Bool} {F : Fm} {Γ : Gm} {Δ : Δs} {γ : Type}
section
variable {α β β2 β3 δ S : Type} {g : TG} {own : List (Str × Nat)} {T : Option γ} {k0 : β → Option γ} {k : β × (List δ × S) → Option γ} {out : β × (List δ × S) → List δ} {Ex : α → Pd} {Ee : δ → Pd} {bd : Gm → α → Gm} {xs : β → List α} {Δ1 : β → Δs} {C : β → S → Δs} {s0 : β → S} {f : β → α → S → Option (Option δ × S)}
    {c : β → α → S → β2 → Bool} {s2 : β → α → S → β2 → S} {T2 : β → α → S → β2 → Option (Option δ × S)} {y : β → α → S → β2 → β3 → δ} {s3 : β → α → S → β2 → β3 → S}
end
end
end L3
end
section
set_option maxHeartbeats 4000000
namespace L3
open PySem PySem.Spec PyProof.Rows L2
section
variable {X : Cx} {W : Bool} {F : Fm} {Γ : Gm} {Δ : Δs} {γ : Type}
section
variable {a b : Expr} {pos : Pos} {β1 β2 α : Type} [DecidableEq α] {T : Option γ} {k1 : β1 → Option γ} {k : β1 × β2 → Option γ} {Δ1 : β1 → Δs} {Δ2 : β1 → β2 → Δs} {Ee : α → Pd} {i : β1 → α} {E2 : β1 → β2 → Pd} {xs : β1 → β2 → List α}
end
section
variable {a b : Expr} {pos : Pos} {β1 β2 : Type} {T : Option γ} {k1 : β1 → Option γ} {k : β1 × β2 → Option γ} {Δ1 : β1 → Δs} {Δ2 : β1 → β2 → Δs} {i : β1 → Str} {j : β1 → β2 → Str} {c : β1 → Bool} {d : β1 → β2 → Bool}
end
structure Dt {α : Type} [DecidableEq α] (E : α → Pd) where
  toD : α → PyData
  dp : ∀ {K H v x}, (E x).pr H v → Dp K H v (toD x)
  dep : Nat
  can : ∀ x, (toD x).canLay0 = true
  deep : ∀ x, (toD x).depth ≤ dep
  eq : ∀ x y, PyData.eqv (toD x) (toD y) = decide (x = y)
theorem dp_all {α : Type} {E : α → Pd} [DecidableEq α] (d : Dt E) {K : PySem.W.Frag} {H : Hp} : ∀ {xs : List α} {vs : List V}, Paired (fun x u => (E x).pr H u) xs vs → DpAll K H vs (xs.map d.toD)
  | _, _, .nil => .nil
  | _, _, .cons r t => .cons (d.dp r) (dp_all d t)
section
variable {a b : Expr} {pos : Pos} {β1 β2 α : Type} [DecidableEq α] {T : Option γ} {k1 : β1 → Option γ} {k : β1 × β2 → Option γ} {Δ1 : β1 → Δs} {Δ2 : β1 → β2 → Δs} {Ee : α → Pd} {E1 : β1 → Pd} {E2 : β1 → β2 → Pd} {xs ys : β1 → β2 → List α}
theorem RL.dp {α : Type} {E : α → Pd} [DecidableEq α] (d : Dt E) {xs : List α} {H : Hp} {v : V} {K : PySem.W.Frag} (h : RL E xs H v) : Dp K H v (.list (xs.map d.toD)) := by
  obtain ⟨a, vs, e, sq, z, p⟩ := h.sq (K := K)
  rw [e]
  exact .lst sq (dp_all d p)
end
end
end L3
end
section
set_option maxHeartbeats 4000000
namespace L3
open PySem PySem.Spec PyProof.Rows L2
section
variable {X : Cx} {W : Bool} {F : Fm} {Γ : Gm} {Δ : Δs} {γ : Type}
section
variable {a : Expr} {lo hi : Option Expr} {p2 pos : Pos} {β1 β2 β3 α : Type} {T : Option γ} {k1 : β1 → Option γ} {k2 : β1 → β2 → Option γ} {k : β1 × β2 × β3 → Option γ} {E1 : β1 → Pd} {Ee : α → Pd} {xs : β1 → β2 → β3 → List α} {o1 : β1 → β2 → Option Int} {o2 : β1 → β2 → β3 → Option Int} {Δ1 : β1 → Δs} {Δ2 : β1 → β2 → Δs} {Δ3 : β1 → β2 → β3 → Δs}
end
section
variable {a : Expr} {β α : Type} {T : Option γ} {k : β → Option γ} {E1 : β → Pd} {Ee : α → Pd} {xs : β → List α} {Δ1 : β → Δs}
variable {p pos : Pos}
end
section
variable {a : Expr} {i : Int} {n : Nat} {p pos : Pos} {β α1 α2 α3 : Type} {T : Option γ} {k : β → Option γ} {A : α1 → Pd} {B : α2 → Pd} {C : α3 → Pd} {Δ1 : β → Δs}
end
section
variable {a b : Expr} {pos : Pos} {β1 β2 α : Type} {T : Option γ} {k1 : β1 → Option γ} {k : β1 × β2 → Option γ} {Δ1 : β1 → Δs} {Δ2 : β1 → β2 → Δs} {Ee : α → Pd} {E1 : β1 → Pd} {E2 : β1 → β2 → Pd} {xs ys : β1 → β2 → List α}
end
section
variable {o e : Expr} {apos cpos : Pos} {β1 β2 α : Type} {T : Option γ} {k1 : β1 → Option γ} {k : β1 × β2 → Option γ} {Δ1 : β1 → Δs} {Δ2 : β1 → β2 → Δs} {Ee : α → Pd} {xs : β1 → β2 → List α} {y : β1 → β2 → α} {v : V} {prm : Option Nat}
end
section
variable {a : Expr} {pos p : Pos} {j : Nat} {β α : Type} {T : Option γ} {k : β → Option γ} {Ee : α → Pd} {x : β → Option α} {Δ1 : β → Δs}
end
end
end L3
end
section
set_option maxHeartbeats 8000000
namespace L3
open PySem PySem.Spec PyProof.Rows L2
section
variable {P : Program} {w : World} {A : Around} {E : Value → Shared → Prop} {s : Shared}
end
section
variable {X : Cx}
variable {W : Bool} {F : Fm} {Γ : Gm} {Δ : Δs} {γ : Type}
section
variable {a : Expr} {p pos : Pos} {β : Type} {T : Option γ} {E1 : β → Pd} {xs : β → List Int} {Δ1 : β → Δs}
end
end
end L3
end
section
set_option maxHeartbeats 8000000
namespace L3
open PySem PySem.Spec PyProof.Rows L2
section
variable {P : Program} {w : World} {A : Around} {E : Value → Shared → Prop} {s : Shared}
end
section
variable {X : Cx} {W : Bool} {F : Fm} {Γ : Gm} {Δ : Δs} {γ : Type}
section
variable {a : Expr} {p pos : Pos} {β : Type} {T : Option γ} {xs : β → List Int} {Δ1 : β → Δs} {k : β → Option γ}
end
end
end L3
end
section
set_option maxHeartbeats 4000000
namespace L3
open PySem PySem.Spec PyProof.Rows L2
section
variable {X : Cx} {W : Bool} {F : Fm} {Γ : Gm} {Δ : Δs} {γ : Type}
end
end L3
end
section
set_option maxHeartbeats 4000000
namespace L3
open PySem PySem.Spec PyProof.Rows L2
section
variable {X : Cx} {W : Bool} {F : Fm} {Γ : Gm} {Δ : Δs} {γ : Type}
inductive Own3 {α : Type} (D : α → Od) (H : Hp) : List α → List V → List (List Addr) → Prop
  | nil : Own3 D H [] [] []
  | cons {x : α} {xs : List α} {v : V} {vs : List V} {g : List Addr} {gs : List (List Addr)} : (D x).pr g H v → Own3 D H xs vs gs → Own3 D H (x :: xs) (v :: vs) (g :: gs)
theorem Own3.len {α : Type} {D : α → Od} {H : Hp} : ∀ {xs : List α} {vs : List V} {gs : List (List Addr)}, Own3 D H xs vs gs → xs.length = vs.length
  | _, _, _, .nil => rfl
  | _, _, _, .cons _ t => congrArg (· + 1) t.len
theorem Own3.frame {α : Type} {D : α → Od} {H H' : Hp} (f : Fzs H H') : ∀ {xs : List α} {vs : List V} {gs : List (List Addr)}, Own3 D H xs vs gs → (∀ a ∈ gs.flatten, ∀ o, H a = some o → H' a = some o) → Own3 D H' xs vs gs
  | _, _, _, .nil, _ => .nil
  | _, _, _, .cons r t, k => by
    rw [List.flatten_cons] at k
    exact .cons ((D _).frame r (fun a ha => k a (List.mem_append_left _ ha)) f) (Own3.frame f t fun a ha => k a (List.mem_append_right _ ha))
theorem Own3.cells {α : Type} {D : α → Od} {H : Hp} : ∀ {xs : List α} {vs : List V} {gs : List (List Addr)}, Own3 D H xs vs gs → ∀ a ∈ gs.flatten, ∃ o, H a = some o ∧ Mut (some o)
  | _, _, _, .nil, a, h => by simp at h
  | _, _, _, .cons r t, a, h => by
    rw [List.flatten_cons] at h
    rcases List.mem_append.mp h with h | h
    · exact (D _).cells r a h
    · exact t.cells a h
theorem Own3.lockd {α : Type} {D : α → Od} {H H1 : Hp} {S : List Addr} (h1 : ∀ a, a ∉ S → H1 a = H a) (h2 : ∀ a ∈ S, ∀ u, H a = some u → ∃ o, H1 a = some (.frz o u)) (hm : ∀ a ∈ S, ∃ o, H a = some o ∧ Mut (some o)) : ∀ {xs : List α} {vs : List V} {gs : List (List Addr)}, Own3 D H xs vs gs → (∀ a ∈ gs.flatten, a ∈ S) → Paired (fun x u => (D x).pd.pr H1 u) xs vs
  | _, _, _, .nil, _ => .nil
  | x :: _, v :: _, g :: gs, .cons r t, sub => by
    rw [List.flatten_cons] at sub
    refine .cons ?_ (Own3.lockd h1 h2 hm t fun a ha => sub a (List.mem_append_right _ ha))
    have m1 : ∀ a, a ∉ g → (fun a => if a ∈ g then H1 a else H a : Hp) a = H a := fun a ha => if_neg ha
    have m2 : ∀ a ∈ g, ∀ u, H a = some u → ∃ o, (fun a => if a ∈ g then H1 a else H a : Hp) a = some (.frz o u) := fun a ha u e => by
      obtain ⟨o, ho⟩ := h2 a (sub a (List.mem_append_left _ ha)) u e
      exact ⟨o, (if_pos ha).trans ho⟩
    refine (D x).pd.mono (fun a o p e => ?_) ((D x).lockd r m1 m2)
    by_cases ha : a ∈ g
    · exact (if_pos ha).symm.trans e
    · have e : H a = some o := (if_neg ha).symm.trans e
      by_cases hs : a ∈ S
      · obtain ⟨u, hu, mu⟩ := hm a hs
        rw [e] at hu
        cases hu
        exact absurd p (Mut.npst mu)
      · rw [h1 a hs]; exact e
theorem Own3.at {α : Type} {D : α → Od} {H : Hp} : ∀ {xs : List α} {vs : List V} {gs : List (List Addr)} {m : Nat} {x : α}, Own3 D H xs vs gs → xs[m]? = some x → ∃ v g, vs[m]? = some v ∧ gs[m]? = some g ∧ (D x).pr g H v
  | _, _, _, _, _, .nil, e => by simp at e
  | _, _, _, 0, _, .cons r _, e => by simp at e; subst e; exact ⟨_, _, rfl, rfl, r⟩
  | _, _, _, m + 1, x, .cons _ t, e => by
    obtain ⟨v, g, h1, h2, h3⟩ := Own3.at (m := m) (x := x) t (by simpa using e)
    exact ⟨v, g, by simpa using h1, by simpa using h2, h3⟩
theorem Own3.app {α : Type} {D : α → Od} {H : Hp} {y : α} {v : V} {g : List Addr} (r : (D y).pr g H v) : ∀ {xs : List α} {vs : List V} {gs : List (List Addr)}, Own3 D H xs vs gs → Own3 D H (xs ++ [y]) (vs ++ [v]) (gs ++ [g])
  | _, _, _, .nil => .cons r .nil
  | _, _, _, .cons a t => .cons a (t.app r)
end
end L3
end
section
set_option maxHeartbeats 4000000
namespace L3
open PySem PySem.Spec PyProof.Rows L2
section
variable {X : Cx} {W : Bool} {F : Fm} {Γ : Gm} {Δ : Δs} {γ : Type} {N : Fn γ} {rest : List Stmt}
end
end L3
end
section
set_option maxHeartbeats 4000000
namespace L3
open PySem PySem.Spec PyProof.Rows L2
section
variable {X : Cx} {W : Bool} {F : Fm} {Γ : Gm} {Δ : Δs} {γ : Type}
section
variable {a : Expr} {pos : Pos} {β : Type} {T : Option γ} {k : β → Option γ} {Δ1 : β → Δs} {i : β → Int}
end
section
variable {a b : Expr} {pos : Pos} {β1 β2 : Type} {T : Option γ} {k1 : β1 → Option γ} {k : β1 × β2 → Option γ} {Δ1 : β1 → Δs} {Δ2 : β1 → β2 → Δs} {i : β1 → Str} {j : β1 → β2 → Str}
end
section
variable {a b : Expr} {pos : Pos} {β1 β2 : Type} {T : Option γ} {k1 : β1 → Option γ} {k : β1 × β2 → Option γ} {Δ1 : β1 → Δs} {Δ2 : β1 → β2 → Δs} {i : β1 → Option Int} {j : β1 → β2 → Option Int} {c : β1 → Option Str} {d : β1 → β2 → Option Str}
end
section
variable {T : Option γ}
end
end
end L3
end
section
set_option maxHeartbeats 4000000
namespace L3
open PySem PySem.Spec PyProof.Rows L2
section
variable {X : Cx} {W : Bool} {F : Fm} {Γ : Gm} {Δ : Δs} {γ : Type}
end
end L3
end
section
set_option maxHeartbeats 4000000
namespace L3
open PySem PySem.Spec PyProof.Rows L2
section
variable {X : Cx} {W : Bool} {F : Fm} {Γ : Gm} {Δ : Δs} {γ : Type}
section
variable {a b : Expr} {pos : Pos} {β1 β2 : Type} {T : Option γ} {k1 : β1 → Option γ} {Δ1 : β1 → Δs} {Δ2 : β1 → β2 → Δs} {xs : β1 → List Int} {j : β1 → β2 → Int}
end
section
variable {a : Expr} {pos p : Pos} {β : Type} {T : Option γ} {Δ1 : β → Δs} {xs : β → List Int} {k : β → Option γ}
end
end
end L3
end
section
set_option maxHeartbeats 4000000
namespace L3
open PySem PySem.Spec PyProof.Rows L2
class Ky (κ : Type) where
  ky : κ → Key
  kp : κ → Pd
  inj : ∀ {x y : κ}, ky x = ky y → x = y
  is : ∀ {x : κ} {H : Hp} {v : V}, (kp x).pr H v → v = kV (ky x)
  of : ∀ (x : κ) (H : Hp), (kp x).pr H (kV (ky x))
@[reducible] instance kyS : Ky Str := { ky := .inr, kp := pStr, inj := fun h => Sum.inr.inj h, is := fun h => h, of := fun _ _ => rfl }
@[reducible] instance kyI : Ky Int := { ky := .inl, kp := pInt, inj := fun h => Sum.inl.inj h, is := fun h => h, of := fun _ _ => rfl }
section
variable {κ α : Type} [DecidableEq κ]
def dget (d : List (κ × α)) (k : κ) : Option α := (d.find? fun p => decide (p.1 = k)).map (·.2)
def dput (d : List (κ × α)) (k : κ) (v : α) : List (κ × α) := if (d.any fun p => decide (p.1 = k)) = true then d.map (fun p => if p.1 = k then (p.1, v) else p) else d ++ [(k, v)]
end
section
variable {κ α : Type} [DecidableEq κ] [Ky κ]
abbrev PrM (E : α → Pd) (H : Hp) (x : κ × α) (u : Key × V) : Prop := u.1 = Ky.ky x.1 ∧ (E x.2).pr H u.2
theorem prM_mono {E : α → Pd} {H H' : Hp} (f : Fzs H H') {xs : List (κ × α)} {us : List (Key × V)} (p : Paired (PrM E H) xs us) : Paired (PrM E H') xs us := paired_mono (fun x _ q => ⟨q.1, (E x.2).mono f q.2⟩) p
def pM (E : α → Pd) (xs : List (κ × α)) : Pd where
  pr H v := ∃ a o kvs, v = .ref a ∧ H a = some (.frz o (.dK kvs)) ∧ xs.length ≤ sizeLine ∧ Paired (PrM E H) xs kvs
  mono := fun f ⟨a, o, vs, e, h, z, p⟩ => ⟨a, o, vs, e, f _ _ trivial h, z, prM_mono f p⟩
end
section
variable {X : Cx} {W : Bool} {F : Fm} {Γ : Gm} {Δ : Δs} {γ : Type} {κ α : Type} [DecidableEq κ] [Ky κ]
section
variable {a b : Expr} {pos : Pos} {β1 β2 : Type} {T : Option γ} {k1 : β1 → Option γ} {Δ1 : β1 → Δs} {Δ2 : β1 → β2 → Δs} {E1 : β1 → Pd} {Ee : α → Pd} {xs : β1 → β2 → List (κ × α)} {j : β1 → β2 → κ}
end
section
variable {a b : Expr} {pos : Pos} {β1 β2 : Type} {T : Option γ} {k1 : β1 → Option γ} {k : β1 × β2 → Option γ} {Δ1 : β1 → Δs} {Δ2 : β1 → β2 → Δs} {E2 : β1 → β2 → Pd} {Ee : α → Pd} {xs : β1 → β2 → List (κ × α)} {i : β1 → κ}
end
end
end L3
end
section
set_option maxHeartbeats 4000000
namespace L3
open PySem PySem.Spec PyProof.Rows L2
section
variable {X : Cx} {W : Bool} {F : Fm} {Γ : Gm} {Δ : Δs} {γ : Type} {κ α : Type} [DecidableEq κ] [Ky κ]
section
variable {e a : Expr} {r : V → Hp → VK → Prop} {β : Type} {T : Option γ} {E1 : β → Pd} {Δ1 : β → Δs}
end
section
variable {a : Expr} {pos p : Pos} {β : Type} {T : Option γ} {Δ1 : β → Δs} {E1 : β → Pd} {Ee : α → Pd} {xs : β → List (κ × α)} {k : β → Option γ}
end
section
variable {N : Fn γ} {rest : List Stmt}
end
end
end L3
end
section
set_option maxHeartbeats 4000000
namespace L3
open PySem PySem.Spec PyProof.Rows L2
section
variable {κ α : Type} [DecidableEq κ] [DecidableEq α]
end
section
variable {X : Cx} {W : Bool} {F : Fm} {Γ : Gm} {Δ : Δs} {γ : Type} {κ α : Type} [DecidableEq κ] [Ky κ] [DecidableEq α]
section
variable {a b : Expr} {pos : Pos} {β1 β2 : Type} {T : Option γ} {k1 : β1 → Option γ} {k : β1 × β2 → Option γ} {Δ1 : β1 → Δs} {Δ2 : β1 → β2 → Δs} {Ee : α → Pd} {E1 : β1 → Pd} {E2 : β1 → β2 → Pd} {xs ys : β1 → β2 → List (κ × α)}
end
end
section
variable {X : Cx} {W : Bool} {F : Fm} {Γ : Gm} {Δ : Δs} {γ : Type}
section
variable {a b : Expr} {p pos : Pos} {β1 β2 : Type} {T : Option γ} {k1 : β1 → Option γ} {k : β1 × β2 → Option γ} {Δ1 : β1 → Δs} {Δ2 : β1 → β2 → Δs} {i : β1 → Int} {j : β1 → β2 → Int}
end
section
variable {a b : Expr} {p pos : Pos} {β β1 β2 : Type} {T : Option γ} {k1 : β1 → Option γ} {Δ1 : β1 → Δs} {Δ0 : β → Δs} {Δ2 : β1 → β2 → Δs}
end
section
variable {o e : Expr} {apos cpos : Pos} {β1 β2 α : Type} {T : Option γ} {k1 : β1 → Option γ} {Δ1 : β1 → Δs} {Δ2 : β1 → β2 → Δs} {E1 : β1 → Pd} {Ee : α → Pd} {y : β1 → β2 → α}
end
end
end L3
end
section
set_option maxHeartbeats 4000000
namespace L3
open PySem PySem.Spec PyProof.Rows L2
section
variable {X : Cx} {W : Bool} {F : Fm} {Γ : Gm} {Δ : Δs} {γ : Type}
end
end L3
end
section
set_option maxHeartbeats 4000000
namespace L3
open PySem PySem.Spec PyProof.Rows L2
inductive Val where
  | non
  | bl (b : Bool)
  | int (i : Int)
  | str (x : Str)
  | lst (xs : List Val)
  | tup (xs : List Val)
  | dct (kvs : List (Key × Val))
  | ins (c : Str) (fs : List (Str × Val))
abbrev Mg := Str → Option Value
mutual
inductive VRep (mg : Mg) (H : Hp) : Val → V → Prop
  | non : VRep mg H .non .non
  | bl (b : Bool) : VRep mg H (.bl b) (.bl b)
  | int (i : Int) : VRep mg H (.int i) (.int i)
  | str (x : Str) : VRep mg H (.str x) (.str x)
  | lst {a : Addr} {o : Obj} {vs : List V} {xs : List Val} : H a = some (.frz o (.lst vs)) → xs.length ≤ sizeLine → VReps mg H xs vs → VRep mg H (.lst xs) (.ref a)
  | tup {a : Addr} {vs : List V} {xs : List Val} : H a = some (.tup vs) → xs.length ≤ sizeLine → VReps mg H xs vs → VRep mg H (.tup xs) (.ref a)
  | dct {a : Addr} {o : Obj} {ks : List (Key × V)} {kvs : List (Key × Val)} : H a = some (.frz o (.dK ks)) → kvs.length ≤ sizeLine → VRepD mg H kvs ks → VRep mg H (.dct kvs) (.ref a)
  | ins {a : Addr} {o : Obj} {C dx : Addr} {vs : List (Str × V)} {c : Str} {fs : List (Str × Val)} : H a = some (.frz o (.ins C dx vs)) → mg c = some (.ref C) → VRepF mg H fs vs → VRep mg H (.ins c fs) (.ref a)
inductive VReps (mg : Mg) (H : Hp) : List Val → List V → Prop
  | nil : VReps mg H [] []
  | cons {x : Val} {v : V} {xs : List Val} {vs : List V} : VRep mg H x v → VReps mg H xs vs → VReps mg H (x :: xs) (v :: vs)
inductive VRepD (mg : Mg) (H : Hp) : List (Key × Val) → List (Key × V) → Prop
  | nil : VRepD mg H [] []
  | cons {k : Key} {x : Val} {v : V} {xs : List (Key × Val)} {vs : List (Key × V)} : VRep mg H x v → VRepD mg H xs vs → VRepD mg H ((k, x) :: xs) ((k, v) :: vs)
inductive VRepF (mg : Mg) (H : Hp) : List (Str × Val) → List (Str × V) → Prop
  | nil : VRepF mg H [] []
  | cons {k : Str} {x : Val} {v : V} {xs : List (Str × Val)} {vs : List (Str × V)} : VRep mg H x v → VRepF mg H xs vs → VRepF mg H ((k, x) :: xs) ((k, v) :: vs)
end
mutual
theorem VRep.mono {mg : Mg} {H H' : Hp} (f : Fzs H H') : ∀ {x : Val} {v : V}, VRep mg H x v → VRep mg H' x v
  | _, _, .non => .non
  | _, _, .bl b => .bl b
  | _, _, .int i => .int i
  | _, _, .str x => .str x
  | _, _, .lst h z r => .lst (f _ _ trivial h) z (VReps.mono f r)
  | _, _, .tup h z r => .tup (f _ _ trivial h) z (VReps.mono f r)
  | _, _, .dct h z r => .dct (f _ _ trivial h) z (VRepD.mono f r)
  | _, _, .ins h m r => .ins (f _ _ trivial h) m (VRepF.mono f r)
theorem VReps.mono {mg : Mg} {H H' : Hp} (f : Fzs H H') : ∀ {x : List Val} {v : List V}, VReps mg H x v → VReps mg H' x v
  | _, _, .nil => .nil
  | _, _, .cons a b => .cons (VRep.mono f a) (VReps.mono f b)
theorem VRepD.mono {mg : Mg} {H H' : Hp} (f : Fzs H H') : ∀ {x : List (Key × Val)} {v : List (Key × V)}, VRepD mg H x v → VRepD mg H' x v
  | _, _, .nil => .nil
  | _, _, .cons a b => .cons (VRep.mono f a) (VRepD.mono f b)
theorem VRepF.mono {mg : Mg} {H H' : Hp} (f : Fzs H H') : ∀ {x : List (Str × Val)} {v : List (Str × V)}, VRepF mg H x v → VRepF mg H' x v
  | _, _, .nil => .nil
  | _, _, .cons a b => .cons (VRep.mono f a) (VRepF.mono f b)
end
inductive OTr where
  | fz (v : Val)
  | lst (xs : List OTr)
  | tup (xs : List OTr)
  | dct (kvs : List (Key × OTr))
  | ins (c : Str) (fs : List (Str × OTr))
mutual
def er : OTr → Val
  | .fz v => v
  | .lst xs => .lst (ers xs)
  | .tup xs => .tup (ers xs)
  | .dct kvs => .dct (erd kvs)
  | .ins c fs => .ins c (erf fs)
def ers : List OTr → List Val
  | [] => []
  | x :: xs => er x :: ers xs
def erd : List (Key × OTr) → List (Key × Val)
  | [] => []
  | (k, x) :: xs => (k, er x) :: erd xs
def erf : List (Str × OTr) → List (Str × Val)
  | [] => []
  | (k, x) :: xs => (k, er x) :: erf xs
end
theorem ers_len : ∀ xs : List OTr, (ers xs).length = xs.length
  | [] => by unfold ers; rfl
  | x :: xs => by unfold ers; rw [List.length_cons, ers_len xs, List.length_cons]
theorem erd_len : ∀ xs : List (Key × OTr), (erd xs).length = xs.length
  | [] => by unfold erd; rfl
  | (k, x) :: xs => by unfold erd; rw [List.length_cons, erd_len xs, List.length_cons]
mutual
inductive ORep (mg : Mg) (H : Hp) : OTr → V → List Addr → Prop
  | fz {v : Val} {x : V} : VRep mg H v x → ORep mg H (.fz v) x []
  | lst {a : Addr} {vs : List V} {xs : List OTr} {G : List Addr} : H a = some (.lst vs) → xs.length ≤ sizeLine → OReps mg H xs vs G → ORep mg H (.lst xs) (.ref a) (a :: G)
  | tup {a : Addr} {vs : List V} {xs : List OTr} {G : List Addr} : H a = some (.tup vs) → xs.length ≤ sizeLine → OReps mg H xs vs G → ORep mg H (.tup xs) (.ref a) G
  | dct {a : Addr} {ks : List (Key × V)} {kvs : List (Key × OTr)} {G : List Addr} : H a = some (.dK ks) → kvs.length ≤ sizeLine → ORepD mg H kvs ks G → ORep mg H (.dct kvs) (.ref a) (a :: G)
  | ins {a : Addr} {C dx : Addr} {vs : List (Str × V)} {c : Str} {fs : List (Str × OTr)} {G : List Addr} : H a = some (.ins C dx vs) → mg c = some (.ref C) → ORepF mg H fs vs G → ORep mg H (.ins c fs) (.ref a) (a :: G)
inductive OReps (mg : Mg) (H : Hp) : List OTr → List V → List Addr → Prop
  | nil : OReps mg H [] [] []
  | cons {x : OTr} {v : V} {xs : List OTr} {vs : List V} {G1 G2 : List Addr} : ORep mg H x v G1 → OReps mg H xs vs G2 → OReps mg H (x :: xs) (v :: vs) (G1 ++ G2)
inductive ORepD (mg : Mg) (H : Hp) : List (Key × OTr) → List (Key × V) → List Addr → Prop
  | nil : ORepD mg H [] [] []
  | cons {k : Key} {x : OTr} {v : V} {xs : List (Key × OTr)} {vs : List (Key × V)} {G1 G2 : List Addr} : ORep mg H x v G1 → ORepD mg H xs vs G2 → ORepD mg H ((k, x) :: xs) ((k, v) :: vs) (G1 ++ G2)
inductive ORepF (mg : Mg) (H : Hp) : List (Str × OTr) → List (Str × V) → List Addr → Prop
  | nil : ORepF mg H [] [] []
  | cons {k : Str} {x : OTr} {v : V} {xs : List (Str × OTr)} {vs : List (Str × V)} {G1 G2 : List Addr} : ORep mg H x v G1 → ORepF mg H xs vs G2 → ORepF mg H ((k, x) :: xs) ((k, v) :: vs) (G1 ++ G2)
end
abbrev Kp (G : List Addr) (H H' : Hp) : Prop := ∀ a ∈ G, ∀ o, H a = some o → H' a = some o
theorem Kp.l {G1 G2 : List Addr} {H H' : Hp} (k : Kp (G1 ++ G2) H H') : Kp G1 H H' := fun a ha => k a (List.mem_append_left _ ha)
theorem Kp.r {G1 G2 : List Addr} {H H' : Hp} (k : Kp (G1 ++ G2) H H') : Kp G2 H H' := fun a ha => k a (List.mem_append_right _ ha)
theorem Kp.t {a : Addr} {G : List Addr} {H H' : Hp} (k : Kp (a :: G) H H') : Kp G H H' := fun a ha => k a (List.mem_cons_of_mem _ ha)
mutual
theorem ORep.frame {mg : Mg} {H H' : Hp} (f : Fzs H H') : ∀ {x : OTr} {v : V} {G : List Addr}, ORep mg H x v G → Kp G H H' → ORep mg H' x v G
  | _, _, _, .fz h, _ => .fz (h.mono f)
  | _, _, _, .lst h z r, k => .lst (k _ List.mem_cons_self _ h) z (OReps.frame f r k.t)
  | _, _, _, .tup h z r, k => .tup (f _ _ trivial h) z (OReps.frame f r k)
  | _, _, _, .dct h z r, k => .dct (k _ List.mem_cons_self _ h) z (ORepD.frame f r k.t)
  | _, _, _, .ins h m r, k => .ins (k _ List.mem_cons_self _ h) m (ORepF.frame f r k.t)
theorem OReps.frame {mg : Mg} {H H' : Hp} (f : Fzs H H') : ∀ {x : List OTr} {v : List V} {G : List Addr}, OReps mg H x v G → Kp G H H' → OReps mg H' x v G
  | _, _, _, .nil, _ => .nil
  | _, _, _, .cons a b, k => .cons (ORep.frame f a k.l) (OReps.frame f b k.r)
theorem ORepD.frame {mg : Mg} {H H' : Hp} (f : Fzs H H') : ∀ {x : List (Key × OTr)} {v : List (Key × V)} {G : List Addr}, ORepD mg H x v G → Kp G H H' → ORepD mg H' x v G
  | _, _, _, .nil, _ => .nil
  | _, _, _, .cons a b, k => .cons (ORep.frame f a k.l) (ORepD.frame f b k.r)
theorem ORepF.frame {mg : Mg} {H H' : Hp} (f : Fzs H H') : ∀ {x : List (Str × OTr)} {v : List (Str × V)} {G : List Addr}, ORepF mg H x v G → Kp G H H' → ORepF mg H' x v G
  | _, _, _, .nil, _ => .nil
  | _, _, _, .cons a b, k => .cons (ORep.frame f a k.l) (ORepF.frame f b k.r)
end
abbrev Muts (G : List Addr) (H : Hp) : Prop := ∀ a ∈ G, ∃ o, H a = some o ∧ Mut (some o)
theorem Muts.cons {a : Addr} {G : List Addr} {H : Hp} {o : HO} (h : H a = some o) (m : Mut (some o)) (t : Muts G H) : Muts (a :: G) H := fun b hb => by
  rcases List.mem_cons.mp hb with e | hb
  · rw [e]; exact ⟨o, h, m⟩
  · exact t b hb
theorem Muts.app {G1 G2 : List Addr} {H : Hp} (a : Muts G1 H) (b : Muts G2 H) : Muts (G1 ++ G2) H := fun x hx => (List.mem_append.mp hx).elim (a x) (b x)
mutual
theorem ORep.cells {mg : Mg} {H : Hp} : ∀ {x : OTr} {v : V} {G : List Addr}, ORep mg H x v G → Muts G H
  | _, _, _, .fz _ => fun _ h => absurd h List.not_mem_nil
  | _, _, _, .lst h _ r => Muts.cons h trivial (OReps.cells r)
  | _, _, _, .tup _ _ r => OReps.cells r
  | _, _, _, .dct h _ r => Muts.cons h trivial (ORepD.cells r)
  | _, _, _, .ins h _ r => Muts.cons h trivial (ORepF.cells r)
theorem OReps.cells {mg : Mg} {H : Hp} : ∀ {x : List OTr} {v : List V} {G : List Addr}, OReps mg H x v G → Muts G H
  | _, _, _, .nil => fun _ h => absurd h List.not_mem_nil
  | _, _, _, .cons a b => Muts.app (ORep.cells a) (OReps.cells b)
theorem ORepD.cells {mg : Mg} {H : Hp} : ∀ {x : List (Key × OTr)} {v : List (Key × V)} {G : List Addr}, ORepD mg H x v G → Muts G H
  | _, _, _, .nil => fun _ h => absurd h List.not_mem_nil
  | _, _, _, .cons a b => Muts.app (ORep.cells a) (ORepD.cells b)
theorem ORepF.cells {mg : Mg} {H : Hp} : ∀ {x : List (Str × OTr)} {v : List (Str × V)} {G : List Addr}, ORepF mg H x v G → Muts G H
  | _, _, _, .nil => fun _ h => absurd h List.not_mem_nil
  | _, _, _, .cons a b => Muts.app (ORep.cells a) (ORepF.cells b)
end
abbrev Lkd (S : List Addr) (H H1 : Hp) : Prop := ∀ a ∈ S, ∀ u, H a = some u → ∃ o, H1 a = some (.frz o u)
theorem Lkd.l {G1 G2 : List Addr} {H H' : Hp} (k : Lkd (G1 ++ G2) H H') : Lkd G1 H H' := fun a ha => k a (List.mem_append_left _ ha)
theorem Lkd.r {G1 G2 : List Addr} {H H' : Hp} (k : Lkd (G1 ++ G2) H H') : Lkd G2 H H' := fun a ha => k a (List.mem_append_right _ ha)
theorem Lkd.t {a : Addr} {G : List Addr} {H H' : Hp} (k : Lkd (a :: G) H H') : Lkd G H H' := fun a ha => k a (List.mem_cons_of_mem _ ha)
mutual
theorem ORep.lockd {mg : Mg} {H H1 : Hp} (f : Fzs H H1) : ∀ {x : OTr} {v : V} {G : List Addr}, ORep mg H x v G → Lkd G H H1 → VRep mg H1 (er x) v
  | _, _, _, .fz h, _ => by unfold er; exact h.mono f
  | _, _, _, .lst h z r, k => by
    obtain ⟨o, ho⟩ := k _ List.mem_cons_self _ h
    unfold er
    exact .lst ho (by rw [ers_len]; exact z) (OReps.lockd f r k.t)
  | _, _, _, .tup h z r, k => by
    unfold er
    exact .tup (f _ _ trivial h) (by rw [ers_len]; exact z) (OReps.lockd f r k)
  | _, _, _, .dct h z r, k => by
    obtain ⟨o, ho⟩ := k _ List.mem_cons_self _ h
    unfold er
    exact .dct ho (by rw [erd_len]; exact z) (ORepD.lockd f r k.t)
  | _, _, _, .ins h m r, k => by
    obtain ⟨o, ho⟩ := k _ List.mem_cons_self _ h
    unfold er
    exact .ins ho m (ORepF.lockd f r k.t)
theorem OReps.lockd {mg : Mg} {H H1 : Hp} (f : Fzs H H1) : ∀ {x : List OTr} {v : List V} {G : List Addr}, OReps mg H x v G → Lkd G H H1 → VReps mg H1 (ers x) v
  | _, _, _, .nil, _ => by unfold ers; exact .nil
  | _, _, _, .cons a b, k => by unfold ers; exact .cons (ORep.lockd f a k.l) (OReps.lockd f b k.r)
theorem ORepD.lockd {mg : Mg} {H H1 : Hp} (f : Fzs H H1) : ∀ {x : List (Key × OTr)} {v : List (Key × V)} {G : List Addr}, ORepD mg H x v G → Lkd G H H1 → VRepD mg H1 (erd x) v
  | _, _, _, .nil, _ => by unfold erd; exact .nil
  | _, _, _, .cons a b, k => by unfold erd; exact .cons (ORep.lockd f a k.l) (ORepD.lockd f b k.r)
theorem ORepF.lockd {mg : Mg} {H H1 : Hp} (f : Fzs H H1) : ∀ {x : List (Str × OTr)} {v : List (Str × V)} {G : List Addr}, ORepF mg H x v G → Lkd G H H1 → VRepF mg H1 (erf x) v
  | _, _, _, .nil, _ => by unfold erf; exact .nil
  | _, _, _, .cons a b, k => by unfold erf; exact .cons (ORep.lockd f a k.l) (ORepF.lockd f b k.r)
end
end L3
end
section
set_option maxHeartbeats 4000000
namespace L3
open PySem PySem.Spec PyProof.Rows L2
structure Dg {α : Type} [DecidableEq α] (E : α → Pd) where
  toD : α → PyData
  dp : ∀ {K H v x}, (E x).pr H v → Dp K H v (toD x)
  dep : Nat
  ok : α → Bool
  can : ∀ x, ok x = true → (toD x).canLay0 = true
  deep : ∀ x, (toD x).depth ≤ dep
  eq : ∀ x y, PyData.eqv (toD x) (toD y) = decide (x = y)
def Dt.g {α : Type} [DecidableEq α] {E : α → Pd} (d : Dt E) : Dg E := ⟨d.toD, d.dp, d.dep, fun _ => true, fun x _ => d.can x, d.deep, d.eq⟩
section
variable {X : Cx} {W : Bool} {F : Fm} {Γ : Gm} {Δ : Δs} {γ : Type} {a b : Expr} {pos : Pos} {β1 β2 α : Type} [DecidableEq α] {T : Option γ} {k1 : β1 → Option γ} {k : β1 × β2 → Option γ} {Δ1 : β1 → Δs} {Δ2 : β1 → β2 → Δs} {Ee : α → Pd} {x : β1 → α} {y : β1 → β2 → α}
end
section
variable {X : Cx} {W : Bool} {F : Fm} {Γ : Gm} {Δ : Δs} {γ : Type}
section
variable {a b : Expr} {pos : Pos} {β1 β2 : Type} {T : Option γ} {k1 : β1 → Option γ} {k : β1 × β2 → Option γ} {Δ1 : β1 → Δs} {Δ2 : β1 → β2 → Δs} {i : β1 → Int} {v0 : V} {xs : β1 → β2 → List Int} {prm : Option Nat}
end
end
end L3
end
section
set_option maxHeartbeats 4000000
namespace L3
open PySem PySem.Spec PyProof.Rows L2
section
variable {X : Cx} {W : Bool} {F : Fm} {Γ : Gm} {Δ : Δs} {γ : Type}
variable {α α2 β β4 β5 δ : Type} {g g2 : TG} {own : List (Str × Nat)} {vs1 : List Nat} {T : Option γ} {k0 : β → Option γ} {k : β × List δ → Option γ} {Ex : α → Pd} {Ex2 : α2 → Pd} {Ee : δ → Pd} {bd : Gm → α → Gm} {bd2 : Gm → α2 → Gm} {xs : β → List α} {C : β → Δs} {f : β → α → Option (List δ)}
    {ys : β → α → β4 → List α2} {h : β → α → β4 → α2 → Option δ} {e : β → α → β4 → α2 → β5 → δ}
end
end L3
end
section
set_option maxHeartbeats 4000000
namespace L3
open PySem PySem.Spec PyProof.Rows L2
theorem at_split {α : Type} {x : α} : ∀ {l : List α} {m : Nat}, l[m]? = some x → ∃ A B, l = A ++ x :: B ∧ ∀ y, l.set m y = A ++ y :: B
  | [], m, h => by simp at h
  | y :: l, 0, h => by
    simp at h
    subst h
    exact ⟨[], l, rfl, fun _ => rfl⟩
  | y :: l, m + 1, h => by
    obtain ⟨A, B, e, s⟩ := at_split (l := l) (m := m) (by simpa using h)
    exact ⟨y :: A, B, by rw [e]; rfl, fun z => by rw [List.set_cons_succ, s z]; rfl⟩
theorem flat_set {gs : List (List Addr)} {m : Nat} {g g' : List Addr} (hg : gs[m]? = some g) (nd : gs.flatten.Nodup) (nd' : g'.Nodup) (ds : ∀ a ∈ g', a ∈ g ∨ a ∉ gs.flatten) : (gs.set m g').flatten.Nodup ∧ ∀ a ∈ (gs.set m g').flatten, (a ∈ gs.flatten ∧ a ∉ g) ∨ a ∈ g' := by
  obtain ⟨A, B, e, s⟩ := at_split hg
  rw [s g']
  subst e
  simp only [List.flatten_append, List.flatten_cons] at nd ds ⊢
  obtain ⟨n1, n2, n3⟩ := List.nodup_append.mp nd
  obtain ⟨n4, n5, n6⟩ := List.nodup_append.mp n2
  have dA : ∀ a ∈ A.flatten, a ∉ g' := fun a ha h => by
    rcases ds a h with h | h
    · exact n3 a ha a (List.mem_append_left _ h) rfl
    · exact h (List.mem_append_left _ ha)
  have dB : ∀ a ∈ B.flatten, a ∉ g' := fun a ha h => by
    rcases ds a h with h | h
    · exact n6 a h a ha rfl
    · exact h (List.mem_append_right _ (List.mem_append_right _ ha))
  refine ⟨List.nodup_append.mpr ⟨n1, List.nodup_append.mpr ⟨nd', n5, fun a ha b hb z => ?_⟩, fun a ha b hb z => ?_⟩, fun a ha => ?_⟩
  · subst z; exact dB a hb ha
  · subst z
    rcases List.mem_append.mp hb with h | h
    · exact dA a ha h
    · exact n3 a ha a (List.mem_append_right _ h) rfl
  · rcases List.mem_append.mp ha with h | h
    · exact .inl ⟨List.mem_append_left _ h, fun z => n3 a h a (List.mem_append_left _ z) rfl⟩
    · rcases List.mem_append.mp h with h | h
      · exact .inr h
      · exact .inl ⟨List.mem_append_right _ (List.mem_append_right _ h), fun z => n6 a z a h rfl⟩
theorem Own3.turnG {α : Type} {D : α → Od} {H H' : Hp} {y : α} {v : V} {g g' : List Addr} (f : Fzs H H') (new : (D y).pr g' H' v) : ∀ {xs : List α} {vs : List V} {gs : List (List Addr)} {m : Nat}, Own3 D H xs vs gs → gs.flatten.Nodup → (∀ a ∈ gs.flatten, a ∉ g → ∀ o, H a = some o → H' a = some o) → m < xs.length → gs[m]? = some g → Own3 D H' (xs.set m y) (vs.set m v) (gs.set m g')
  | _, _, _, _, .nil, _, _, e, _ => by simp at e
  | _, _, _, 0, .cons r t, nd, kp, e1, e2 => by
    simp at e2
    subst e2
    rw [List.flatten_cons] at nd kp
    exact .cons new (t.frame f fun a ha o e => kp a (List.mem_append_right _ ha) (fun hg => (List.nodup_append.mp nd).2.2 a hg a ha rfl) o e)
  | _, _, g0 :: gs, m + 1, .cons r t, nd, kp, e1, e2 => by
    rw [List.flatten_cons] at nd kp
    have e2' : gs[m]? = some g := by simpa using e2
    refine .cons ((D _).frame r (fun a ha o e => kp a (List.mem_append_left _ ha) (fun hg => ?_) o e) f) (Own3.turnG f new t (List.nodup_append.mp nd).2.1 (fun a ha => kp a (List.mem_append_right _ ha)) (by simpa using e1) e2')
    exact (List.nodup_append.mp nd).2.2 a ha a (List.mem_flatten.mpr ⟨g, List.mem_of_getElem? e2', hg⟩) rfl
section
variable {κ α : Type} [DecidableEq κ]
theorem dput_set {xs : List (κ × α)} {k : κ} {x y : α} {m : Nat} (nd : (xs.map Prod.fst).Nodup) (h : xs[m]? = some (k, x)) : dput xs k y = xs.set m (k, y) := by
  have hany : (xs.any fun p => decide (p.1 = k)) = true := List.any_eq_true.mpr ⟨(k, x), List.mem_of_getElem? h, by simp⟩
  unfold dput
  rw [if_pos hany]
  clear hany
  induction xs generalizing m with
  | nil => simp at h
  | cons p xs ih =>
    rw [List.map_cons, List.nodup_cons] at nd
    cases m with
    | zero =>
      simp at h
      subst h
      rw [List.map_cons, if_pos rfl, List.set_cons_zero]
      congr 1
      refine (List.map_congr_left fun q hq => ?_).trans (List.map_id _)
      rw [if_neg]
      · rfl
      · intro e
        exact nd.1 (List.mem_map.mpr ⟨q, hq, e⟩)
    | succ m =>
      have h' : xs[m]? = some (k, x) := by simpa using h
      rw [List.map_cons, List.set_cons_succ, ih nd.2 h', if_neg]
      intro e
      exact nd.1 (List.mem_map.mpr ⟨_, List.mem_of_getElem? h', e.symm⟩)
theorem dget_at {xs : List (κ × α)} {k : κ} {x : α} (h : dget xs k = some x) : ∃ m : Nat, xs[m]? = some (k, x) := by
  unfold dget at h
  cases e : xs.find? fun p => decide (p.1 = k) with
  | none => rw [e] at h; cases h
  | some p =>
    rw [e] at h
    have h : p.2 = x := Option.some.inj h
    have e1 : p.1 = k := by simpa using List.find?_some e
    obtain ⟨m, hm⟩ := List.getElem?_of_mem (List.mem_of_find?_eq_some e)
    exact ⟨m, by rw [hm, ← h, ← e1]⟩
end
section
variable {κ α : Type} [DecidableEq κ] [Ky κ]
theorem prM_of {E : α → Pd} {H : Hp} : ∀ {xs : List (κ × α)} {us : List (Key × V)}, us.map (·.1) = xs.map (fun x => Ky.ky x.1) → Paired (fun x u => (E x.2).pr H u) xs (us.map (·.2)) → Paired (PrM E H) xs us
  | [], [], _, _ => .nil
  | [], _ :: _, e, _ => by cases e
  | _ :: _, [], e, _ => by cases e
  | x :: xs, u :: us, e, .cons r t => by
    rw [List.map_cons, List.map_cons] at e
    injection e with e1 e2
    exact .cons ⟨e1, r⟩ (prM_of e2 t)
def oMO (D : α → Od) (xs : List (κ × α)) : Od where
  pr G H v := ∃ p kvs gs, G = p :: gs.flatten ∧ v = .ref p ∧ H p = some (.dK kvs) ∧ xs.length ≤ sizeLine ∧ (xs.map Prod.fst).Nodup ∧ kvs.map (·.1) = xs.map (fun x => Ky.ky x.1) ∧ Own3 (fun x : κ × α => D x.2) H xs (kvs.map (·.2)) gs
  pd := pM (fun x => (D x).pd) xs
  frame := fun {G H H' v} h k f => by
    obtain ⟨p, vs, gs, eg, ev, h, z, nd, ks, q⟩ := h
    exact ⟨p, vs, gs, eg, ev, k p (by rw [eg]; exact List.mem_cons_self) _ h, z, nd, ks, q.frame f fun a ha => k a (by rw [eg]; exact List.mem_cons_of_mem _ ha)⟩
  cells := fun ⟨p, vs, gs, eg, ev, h, z, nd, ks, q⟩ a ha => by
    rw [eg] at ha
    rcases List.mem_cons.mp ha with e | ha
    · rw [e]; exact ⟨_, h, trivial⟩
    · exact q.cells a ha
  lockd := fun {G H H1 v} ⟨p, vs, gs, eg, ev, h, z, nd, ks, q⟩ h1 h2 => by
    obtain ⟨o, ho⟩ := h2 p (by rw [eg]; exact List.mem_cons_self) _ h
    have hm : ∀ a ∈ G, ∃ o, H a = some o ∧ Mut (some o) := fun a ha => by
      rw [eg] at ha
      rcases List.mem_cons.mp ha with e | ha
      · rw [e]; exact ⟨_, h, trivial⟩
      · exact q.cells a ha
    exact ⟨p, o, vs, ev, ho, z, prM_of ks (q.lockd (D := fun x : κ × α => D x.2) h1 h2 hm fun a ha => by rw [eg]; exact List.mem_cons_of_mem _ ha)⟩
theorem valV_at {us : List (Key × V)} {k : Key} {v : V} {m : Nat} (nd : (us.map (·.1)).Nodup) (h : us[m]? = some (k, v)) : valV us k = some v := by
  induction us generalizing m with
  | nil => simp at h
  | cons p us ih =>
    rw [List.map_cons, List.nodup_cons] at nd
    cases m with
    | zero =>
      simp at h
      subst h
      exact valV_pos rfl
    | succ m =>
      have h' : us[m]? = some (k, v) := by simpa using h
      rw [valV_neg (fun e => nd.1 (List.mem_map.mpr ⟨_, List.mem_of_getElem? h', e.symm⟩))]
      exact ih nd.2 h'
end
theorem nodup_mapI {β δ : Type} {f : β → δ} (hf : ∀ a b, f a = f b → a = b) {l : List β} (nd : l.Nodup) : (l.map f).Nodup := List.Pairwise.map f (fun a b h e => h (hf a b e)) nd
theorem set_self' {β : Type} {x : β} : ∀ {l : List β} {m : Nat}, l[m]? = some x → l.set m x = l
  | [], _, h => by simp at h
  | y :: l, 0, h => by simp at h; subst h; rfl
  | y :: l, m + 1, h => by rw [List.set_cons_succ, set_self' (by simpa using h)]
def Foc {α : Type} (d : Od) (v : V) (D : α → Od) (x : α) (back : α → Od) (u : V) (H : Hp) : Prop :=
  ∀ H1 G, Gr H H1 → d.pr G H1 v → G.Nodup → ∃ G2, (D x).pr G2 H1 u ∧ (∀ a ∈ G2, a ∈ G) ∧ G2.Nodup ∧
    ∀ H' y G2', (∀ a ∈ G, a ∉ G2 → ∀ o, H1 a = some o → H' a = some o) → Fzs H1 H' → G2'.Nodup → (∀ a ∈ G2', a ∈ G2 ∨ a ∉ G) → (D y).pr G2' H' u →
      ∃ G', (back y).pr G' H' v ∧ G'.Nodup ∧ ∀ a ∈ G', (a ∈ G ∧ a ∉ G2) ∨ a ∈ G2'
section
variable {X : Cx} {W : Bool} {F : Fm} {Γ : Gm} {Δ : Δs} {γ : Type}
theorem Foc.key {κ α : Type} [DecidableEq κ] [Ky κ] {d : Od} {v : V} {D : α → Od} {xs : List (κ × α)} {back : List (κ × α) → Od} {u : V} {H : Hp} {n : κ} {x : α} {p : Addr} {kvs : List (Key × V)} {w : V} (f : Foc d v (oMO D) xs back u H) (hu : u = .ref p) (hp : H p = some (.dK kvs)) (hx : dget xs n = some x) (hw : valV kvs (Ky.ky n) = some w) : Foc d v D x (fun y => back (dput xs n y)) w H := fun H1 G g1 hd nd => by
  obtain ⟨G2, ⟨p', kvs', gs, eg, eu, hp', z, ndk, ks, o3⟩, sb, nd2, tr⟩ := f H1 G g1 hd nd
  have eg : G2 = p' :: gs.flatten := eg
  have eu : u = .ref p' := eu
  rw [hu] at eu
  cases eu
  rw [g1 _ _ hp] at hp'
  cases hp'
  subst eg
  obtain ⟨m, hm⟩ := dget_at hx
  obtain ⟨w', g, hvw, hg, pw⟩ := o3.at hm
  have pw : (D x).pr g H1 w' := pw
  have ndkv : (kvs.map (·.1)).Nodup := by
    rw [ks]
    have e : xs.map (fun x => Ky.ky x.1) = (xs.map Prod.fst).map Ky.ky := by rw [List.map_map]; rfl
    rw [e]
    exact nodup_mapI (fun a b e => Ky.inj e) ndk
  have hkv : kvs[m]? = some (Ky.ky n, w') := by
    have h1 : (kvs.map (·.1))[m]? = some (Ky.ky n) := by rw [ks, List.getElem?_map, hm]; rfl
    rw [List.getElem?_map] at h1 hvw
    cases hk : kvs[m]? with
    | none => rw [hk] at h1; cases h1
    | some q =>
      rw [hk] at h1 hvw
      have h1 : q.1 = Ky.ky n := Option.some.inj h1
      have h2 : q.2 = w' := Option.some.inj hvw
      rw [← h1, ← h2]
  have ew : w' = w := by
    have := valV_at ndkv hkv
    rw [hw] at this
    exact (Option.some.inj this).symm
  subst ew
  obtain ⟨pG, ndG⟩ := List.nodup_cons.mp nd2
  have sg : ∀ a ∈ g, a ∈ gs.flatten := fun a ha => List.mem_flatten.mpr ⟨g, List.mem_of_getElem? hg, ha⟩
  have ndg : g.Nodup := by
    obtain ⟨A, B, e, _⟩ := at_split hg
    rw [e, List.flatten_append, List.flatten_cons] at ndG
    exact (List.nodup_append.mp (List.nodup_append.mp ndG).2.1).1
  refine ⟨g, pw, fun a ha => sb a (List.mem_cons_of_mem _ (sg a ha)), ndg, fun H' y G3 kp fz nd3 ds h3 => ?_⟩
  have hml : m < xs.length := (List.getElem?_eq_some_iff.mp hm).1
  have nin : ∀ a ∈ G3, a ∈ g ∨ a ∉ gs.flatten := fun a ha => (ds a ha).imp (fun h => h) fun h z => h (sb a (List.mem_cons_of_mem _ z))
  obtain ⟨fs1, fs2⟩ := flat_set hg ndG nd3 nin
  have pg : p ∉ g := fun z => pG (sg p z)
  have pn : p ∉ G3 := fun z => (ds p z).elim pg fun h => h (sb p List.mem_cons_self)
  have vset : (kvs.map (·.2)).set m w' = kvs.map (·.2) := set_self' hvw
  obtain ⟨G', hb, nb, mb⟩ := tr H' (dput xs n y) (p :: (gs.set m G3).flatten) (fun a ha na o e => kp a ha (fun z => na (List.mem_cons_of_mem _ (sg a z))) o e) fz (List.nodup_cons.mpr ⟨fun z => (fs2 p z).elim (fun h => pG h.1) pn, fs1⟩) (fun a ha => by
      rcases List.mem_cons.mp ha with e | ha
      · exact .inl (by rw [e]; exact List.mem_cons_self)
      · rcases fs2 a ha with h | h
        · exact .inl (List.mem_cons_of_mem _ h.1)
        · exact (ds a h).imp (fun z => List.mem_cons_of_mem _ (sg a z)) fun h => h) ⟨p, kvs, gs.set m G3, rfl, hu, kp p (sb p List.mem_cons_self) pg _ (g1 _ _ hp), by rw [dput_set ndk hm, List.length_set]; exact z, by
        rw [dput_set ndk hm, List.map_set, set_self' (by rw [List.getElem?_map, hm]; rfl)]; exact ndk, by
        rw [dput_set ndk hm, List.map_set, set_self' (by rw [List.getElem?_map, hm]; rfl)]; exact ks, by
        rw [dput_set ndk hm, ← vset]
        exact o3.turnG (y := (n, y)) fz h3 ndG (fun a ha na o e => kp a (sb a (List.mem_cons_of_mem _ ha)) na o e) hml hg⟩
  refine ⟨G', hb, nb, fun a ha => ?_⟩
  rcases mb a ha with ⟨h1, h2⟩ | h
  · exact .inl ⟨h1, fun z => h2 (List.mem_cons_of_mem _ (sg a z))⟩
  · rcases List.mem_cons.mp h with e | h
    · exact .inl ⟨by rw [e]; exact sb p List.mem_cons_self, by rw [e]; exact pg⟩
    · rcases fs2 a h with ⟨h1, h2⟩ | h
      · exact .inl ⟨sb a (List.mem_cons_of_mem _ h1), h2⟩
      · exact .inr h
end
end L3
end
section
set_option maxHeartbeats 4000000
namespace L3
open PySem PySem.Spec PyProof.Rows L2
section
variable {X : Cx} {W : Bool} {F : Fm} {Γ : Gm} {Δ : Δs} {γ : Type}
section
variable {o i e : Expr} {pos : Pos} {β1 β2 α : Type} {T : Option γ} {k1 : β1 → Option γ} {v : V} {d : Od} {D : α → Od} {prm : Option Nat}
end
section
variable {o e : Expr} {apos cpos : Pos} {β1 β2 α : Type} {T : Option γ} {k1 : β1 → Option γ} {k : β1 × β2 → Option γ} {v : V} {d : Od} {prm : Option Nat} {xs : β1 → List α} {back : β1 → List α → Od} {y : β1 → β2 → α}
end
section
variable {N : Fn γ} {rest : List Stmt} {κ : Type} [DecidableEq κ] [Ky κ]
end
end
end L3
end
section
set_option maxHeartbeats 4000000
namespace L3
open PySem PySem.Spec PyProof.Rows L2
section
variable {X : Cx} {W : Bool} {F : Fm} {Γ : Gm} {Δ : Δs} {γ : Type}
section
variable {κ δ : Type} [DecidableEq κ] [Ky κ]
variable {α β β2 β3 : Type} {g : TG} {own : List (Str × Nat)} {T : Option γ} {k : β × List (κ × δ) → Option γ} {Ex : α → Pd} {D : δ → Od} {bd : Gm → α → Gm} {xs : β → List α} {Δ1 : β → Δs} {f : β → α → Option (κ × δ)} {T2 : β → α → β2 → Option (κ × δ)} {ky : β → α → β2 → κ} {y : β → α → β2 → β3 → δ}
end
end
end L3
end
section
set_option maxHeartbeats 4000000
namespace PySem.SeqAt
open AutoSeq1 (wpAny_loadPart')
open MeetsSeq MeetsSeq2 MeetsSeq3 SeqRoads2
section
variable {prog : Program} {w : World}
end
end PySem.SeqAt
end
section
set_option maxHeartbeats 4000000
namespace L3
open PySem PySem.Spec PyProof.Rows L2
section
variable {κ α : Type} [DecidableEq κ] [Ky κ]
end
section
variable {α : Type}
end
end L3
end
section
set_option maxHeartbeats 4000000
namespace L3
open PySem PySem.Spec PyProof.Rows L2
section
variable {X : Cx} {W : Bool} {F : Fm} {Γ : Gm} {Δ : Δs} {γ : Type}
section
variable {a b : Expr} {pos : Pos} {β1 β2 α : Type} {T : Option γ} {k1 : β1 → Option γ} {k : β1 × β2 → Option γ} {Δ1 : β1 → Δs} {Δ2 : β1 → β2 → Δs} {Ee : α → Pd} {x : β1 → List α} {y : β1 → β2 → List α}
end
end
end L3
end
section
set_option maxHeartbeats 4000000
set_option autoImplicit true
namespace L3
open PySem PySem.Spec PyProof.Rows L2
section
variable {X : Cx} {W : Bool} {F : Fm} {Γ : Gm} {Δ : Δs} {γ : Type}
section
variable {e a b : Expr} {r : R2} {β1 β2 : Type} {T : Option γ} {k1 : β1 → Option γ} {E1 : β1 → Pd} {E2 : β1 → β2 → Pd} {Δ1 : β1 → Δs} {Δ2 : β1 → β2 → Δs}
end
section
variable {a b : Expr} {pos : Pos} {β1 β2 α : Type} {T : Option γ} {k1 : β1 → Option γ} {k : β1 × β2 → Option γ} {Δ1 : β1 → Δs} {Δ2 : β1 → β2 → Δs} {Ee : α → Pd} {x : β1 → List α} {y : β1 → β2 → List α}
end
section
variable {a b : Expr} {pos : Pos} {β1 β2 α : Type} [DecidableEq α] {T : Option γ} {k1 : β1 → Option γ} {k : β1 × β2 → Option γ} {Δ1 : β1 → Δs} {Δ2 : β1 → β2 → Δs} {Ee : α → Pd} {x : β1 → α} {y : β1 → β2 → α}
end
end
end L3
end
section
set_option maxHeartbeats 2000000
namespace PySem
namespace SxX
open PySem.W PySem.Calls PyProof.Rows PySem.HandSPX
inductive Stores : List Stmt → List Str → Prop
  | nil : Stores [] []
  | cons {rest : List Stmt} {fs : List Str} {f : Str} {q1 q2 q3 q4 : Pos} (hd : (f == ("__debug__" : Str)) = false) (h : Stores rest fs) : Stores (.Assign [.Attribute (.Name "self" q1) f q2] (.Name f q3) q4 :: rest) (f :: fs)
section
variable {prog : Program} {w : World} {A : Around} {E : Value → Shared → Prop} {K : Frag} {C x L t1 : Addr} {env : Env} {g : Array GenState} {d : Drawn} {os : OsState} {hb : Heap} {m : Str → Option Value} {cd : ClassData}
end
end SxX
end PySem
end
section
set_option maxHeartbeats 2000000
namespace PySem
namespace SxX
open PySem.W PySem.Calls PyProof.Rows PySem.HandSPX
structure SxTxt (prog : Program) (K : Frag) (C fI : Addr) (ps : List Str) : Prop where
  cls : ∃ nm q N bs bm sn sub ab col dd k0 k1 k2 k3 k5, K.lookup C = some (excClassObj nm q C N bs bm true sn sub ab col dd k0 k1 k2 k3 k5 "ValueError.__new__") ∧ refsVE bm = true
  sa : findIn K (.ref C) "__setattr__" = some (some (.builtin "object.__setattr__"))
  noN : ∀ f ∈ ps, findIn K (.ref C) f = some none
  iC : findIn K (.ref C) "__init__" = some (some (.ref fI))
  tC : typeIn K (.ref fI) = some (.type "function")
  kC : keepIn K (.ref C) = true
  exC : subIn K (.ref C) (.type "BaseException") = some true
  veC : subIn K (.ref C) (.type "ValueError") = some true
  tyC : typeIn K (.ref C) = some (.type "type")
  sup : ks_superIn K C C "__init__" = some (some (.builtin "ValueError.__init__"))
  opq : nsIn K cStatics "thirdparty.any" = some none
  few : ps.length ≤ 900
  top : (prog.main.scope.names.lookup ("super" : Str)).isSome = false
  fn : ∃ (oc : Value) (od : Option Addr) (doc pm : Value) (an : Option Addr) (cda : Addr) (ct : Value) (osl : Array (Option Value)) (cc : Addr) (qual : Str) (params : Arguments) (ar : Arg) (text : Str) (kk : Nat) (q0 q1 q2 q3 q4 q5 : Pos) (stores : List Stmt) (scope : Scope)
      (ccl : Value) (cdd : Option Addr) (vs : Array Value) (ccs : Array (Option Value)) (file : Str) (tf : Tok) (cl : Value) (cld : Option Addr) (csl : Array (Option Value)),
    K.lookup fI = some ⟨oc, od, .func (ksFn "__init__" qual params (.Expr (.Call (.Attribute (.Call (.Name "super" q1) [] [] q2) "__init__" q3) [.Constant (.str text) kk q0] [] q4) q5 :: stores) scope .none .none doc pm an (.ref cda) ct cc), osl⟩ ∧ codeIn K (.ref cda) qual = true ∧ Stores stores ps ∧
    (params.posonlyargs ++ params.args).head? = some ar ∧ ar.arg = "self" ∧ K.lookup cda = some ⟨ccl, cdd, .fields vs, ccs⟩ ∧ vs[2]? = some (.str file tf) ∧ ((prog.main.file : Str) == file) = true ∧ (q3.endLine == q4.line) = true ∧ K.lookup cc = some ⟨cl, cld, .cell (some (.ref C)), csl⟩ ∧
    scope.names.lookup ("super" : Str) = some .globalImplicit ∧ scope.names.lookup ("__class__" : Str) = some .free ∧ scope.names.lookup ("self" : Str) = some .local ∧ (∀ f ∈ ps, scope.names.lookup f = some .local) ∧ scope.kind = .function ∧ scope.isCoroutine = false ∧ scope.isGenerator = false ∧ (∀ x ∈ scope.names, x.2 ≠ .cell) ∧
    (("self" : Str) :: ps).Nodup ∧
    ∀ (s : Shared) (us : List Value), us.length = ps.length + 1 → BindsTo s (ksFn "__init__" qual params (.Expr (.Call (.Attribute (.Call (.Name "super" q1) [] [] q2) "__init__" q3) [.Constant (.str text) kk q0] [] q4) q5 :: stores) scope .none .none doc pm an (.ref cda) ct cc) ⟨us, []⟩ ((("self" : Str) :: ps).zip us)
section
variable {prog : Program} {w : World} {A : Around} {R : Result → Shared → Prop} {K : Frag} {C fI x t0 : Addr} {ps : List Str} {hb : Heap} {g : Array GenState} {d : Drawn} {tk : Nat} {os : OsState} {mg : Str → Option Value}
end
end SxX
end PySem
end
section
set_option maxHeartbeats 2000000
set_option autoImplicit true
namespace L2
open PySem PySem.Spec PyProof.Rows PySem.SxX
section
variable {X : Cx} {C fI : Addr} {ps : List Str} {x : Str} {p pos : Pos} {k : Nat}
end
end L2
end
section
set_option maxHeartbeats 4000000
set_option autoImplicit true
namespace L3
open PySem PySem.Spec PyProof.Rows L2 PySem.SxX
structure Xk (ε : Type) where
  ok : ε → Value → Option Addr → Hp → Prop
  mono : ∀ {e : ε} {cls : Value} {d : Option Addr} {H H' : Hp}, Fzs H H' → ok e cls d H → ok e cls d H'
def xOut {ε : Type} (Kx : Xk ε) (F : Fm) (Δx : Δs) (Nx : SS → Hp → Prop) (Wx : WX) (e : ε) (H : Hp) : Prop := ∀ cls d σ H', Fzs H H' → Hk F Δx H' → Nx σ H' → Kx.ok e cls d H' → Wx cls d σ H'
def Ex {ε γ : Type} (N : Fn γ) (ιx : ε → γ) (Kx : Xk ε) (F : Fm) (Δx : Δs) (Nx : SS → Hp → Prop) (Wx : WX) : Prop := ∀ H e D, N.fin H (ιx e) D → xOut Kx F Δx Nx Wx e H
section
variable {X : Cx} {W : Bool} {F : Fm} {Γ : Gm} {Δ : Δs} {γ ε : Type} {Kx : Xk ε} {N : Fn γ} {ιx : ε → γ} {Δx : Δs} {Nx : SS → Hp → Prop} {Wx : WX} {k : Nat} {C fI : Addr} {ps : List Str} {x : Str} {p pos pos2 : Pos}
section
variable {f : Addr} {fd : FuncData} {kk : Nat} {α ρ β : Type} {A : α → List Pd} {Mf : α → Option (Except ε ρ)} {xs : β → α} {T : Option γ} {e : Expr} {es : List Expr}
end
section
variable {rest : List Stmt} {β : Type} {T : Option γ} {kc : β → Option γ} {Δ' : β → Δs} {e : Expr}
end
end
end L3
end
section
set_option maxHeartbeats 4000000
set_option autoImplicit true
namespace L3
open PySem PySem.Spec PyProof.Rows L2 PySem.SxX
section
variable {X : Cx} {W : Bool} {F : Fm} {Γ : Gm} {Δ : Δs} {γ ε : Type} {Kx : Xk ε}
end
inductive FV where
  | str (x : Str)
  | int (i : Int)
  | tupI (xs : List Int)
  | lstS (xs : List Str)
  | dctI (xs : List (Str × Int))
def FV.p : FV → Pd
  | .str x => pStr x
  | .int i => pInt i
  | .tupI xs => pTL pInt xs
  | .lstS xs => pL pStr xs
  | .dctI xs => pM pInt xs
structure Er where
  cn : Str
  fs : List FV
def fieldTab : List (Str × List Str) := [("UnknownName", ["name"]), ("RepeatedName", ["name"]), ("UnknownValue", ["name", "value"]), ("RepeatedValue", ["value"]), ("UnknownKey", ["key"]), ("RepeatedKey", ["key"]), ("EmptyRule", []), ("BadRow", ["row"]), ("BadBounds", ["low", "high"]), ("BadNumber", ["number"]), ("BadStep", ["position"]),
  ("NoMark", ["number"]), ("NotStruck", ["name", "value"]), ("BadOrder", ["names"]), ("NotBare", ["found"]), ("NoClash", []), ("HoldsAnswer", ["answer"]), ("BadLine", ["number", "fault"]), ("UnknownLine", ["number"]), ("BadText", ["number"]), ("NothingToUndo", []), ("NothingToRedo", []), ("UnknownStep", ["number"]), ("BadDeed", ["position"])]
def fieldsOf (c : Str) : List Str := (fieldTab.lookup c).getD []
def subC (x y : Str) : Bool := x == y || y == "DeskError" || y == "ValueError"
def gaM (mg : Str → Option Value) (x : Str) : Addr := match mg x with
  | some (.ref a) => a
  | _ => 0
def clsU (mg : Str → Option Value) (x : Str) : Value := match mg x with
  | some (.ref a) => .ref a
  | _ => .type "ValueError"
structure XcT (P : Program) (K : PySem.W.Frag) (mg : Str → Option Value) (x : Str) : Prop where
  g : mg x = some (.ref (gaM mg x))
  tx : ∃ fI, SxTxt P K (gaM mg x) fI (fieldsOf x)
  ec : ExcC K (gaM mg x)
  xf : XfC K (gaM mg x)
structure XsT (P : Program) (K : PySem.W.Frag) (mg : Str → Option Value) (rs cs : List Str) : Prop where
  sup : mg "super" = none
  x : ∀ x ∈ rs, XcT P K mg x
  own : ∀ y ∈ cs, y = "ValueError" ∧ mg y = none ∨ mg y = some (.ref (gaM mg y))
  kit : ∀ x ∈ rs, ∀ y ∈ cs, PySem.W.kitOne K (.ref (gaM mg x)) (clsU mg y) = some (subC x y)
  exm : ∀ x ∈ rs, ∀ y ∈ cs, PySem.W.exmOne K (.ref (gaM mg x)) (clsU mg y) = some (subC x y)
theorem XsT.names {P : Program} {rs cs : List Str} {X : Cx} (T : XsT P X.K X.mg rs cs) {y : Str} (hy : y ∈ cs) (hg : Gl X y := by rfl) (hd : (y == ("__debug__" : Str)) = false := by decide) (hn : y ≠ "__name__" := by decide) : Names X y (clsU X.mg y) := by
  refine ⟨hg, hd, ?_⟩
  unfold clsU
  rcases T.own y hy with ⟨e, h⟩ | h
  · rw [h]; subst e
    exact .inr ⟨rfl, by decide +kernel, hn⟩
  · rw [h]; exact .inl rfl
section
variable {X : Cx} {W : Bool} {F : Fm} {Γ : Gm} {Δ : Δs} {γ : Type} {P : Program} {rs cs : List Str}
variable {a : Addr} {oe : Obj} {cls : Value} {d : Option Addr} {pn : List (Addr × Obj)} {e : Er} {mg : Str → Option Value}
end
end L3
end
section
set_option maxHeartbeats 4000000
set_option autoImplicit true
namespace L3
open PySem PySem.Spec PyProof.Rows L2 PySem.SxX
section
variable {X : Cx} {W : Bool} {F : Fm} {Γ : Gm} {Δ : Δs} {γ : Type} {N : Fn γ} {rest : List Stmt}
end
section
variable {X : Cx} {W : Bool} {F : Fm} {Γ : Gm} {Δ : Δs} {γ : Type}
section
variable {a b : Expr} {pos : Pos} {β1 β2 : Type} {T : Option γ} {k1 : β1 → Option γ} {k : β1 × β2 → Option γ} {Δ1 : β1 → Δs} {Δ2 : β1 → β2 → Δs}
end
end
end L3
end
section
set_option maxHeartbeats 4000000
set_option autoImplicit true
namespace L3
open PySem PySem.Spec PyProof.Rows L2 PySem.SxX
section
variable {X : Cx} {W : Bool} {F : Fm} {Γ : Gm} {Δ : Δs} {γ : Type} {P : Program} {rs cs : List Str}
variable {a : Addr} {oe : Obj} {cls : Value} {d : Option Addr} {pn : List (Addr × Obj)} {e : Er}
end
end L3
end
section
set_option maxHeartbeats 4000000
set_option autoImplicit true
namespace L3
open PySem PySem.Spec PyProof.Rows L2 PySem.SxX
open He (ga ma eqO eqO_ok ba)
structure XD where
  name : Str
  qual : Str
  params : Arguments
  body : List Stmt
  scope : Scope
  ps : List Str
abbrev FnX : Type := Option (Str × Str × Arguments × FuncBody × Scope × Addr × List Str × Addr)
def iAd (K : PySem.W.Frag) (x : Str) : Addr := ma K (ga K x) "__init__"
def fnXo (K : PySem.W.Frag) (x : Str) : FnX := match K.lookup (iAd K x) with
  | some ⟨_, _, .func fd, _⟩ => some (fd.name, fd.qualname, fd.params, fd.body, fd.scope, fd.globals, fd.closure.map (·.1), fd.builtins)
  | _ => none
def XD.val (d : XD) : FnX := some ("__init__", d.qual, d.params, .stmts d.body, d.scope, mainGlobals, ["__class__"], builtinsNs)
def clsXB (K : PySem.W.Frag) (C : Addr) : Bool := match K.lookup C with
  | some ⟨.type "type", _, .cls cd, sl⟩ => (match cd.mro, sl.toList with
    | .ref C' :: bm, [_, _, _, _, some (.builtin n), _] => C' == C && n == "ValueError.__new__" && !cd.hasDel && cd.hasDict && PySem.HandSPX.refsVE bm
    | _, _ => false)
  | _ => false
def iniXB (P : Program) (K : PySem.W.Frag) (C fI : Addr) (q : Str) : Bool := match K.lookup fI with
  | some ⟨_, _, .func fd, _⟩ => (match fd.defaults, fd.kwdefaults, fd.code, fd.closure with
    | .none, .none, .ref cda, [(_, cc)] => PySem.W.codeIn K (.ref cda) q && ((match K.lookup cda with
      | some ⟨_, _, .fields vs, _⟩ => (match ((vs : Array Value)[2]? : Option Value) with
        | some (.str file _) => (P.main.file : Str) == file
        | _ => false)
      | _ => false) && (match K.lookup cc with
      | some ⟨_, _, .cell (some (.ref C')), _⟩ => C' == C
      | _ => false))
    | _, _, _, _ => false)
  | _ => false
def XD.ok (P : Program) (K : PySem.W.Frag) (d : XD) : Bool :=
  clsXB K (ga K d.name) && (eqO (PySem.W.findIn K (.ref (ga K d.name)) "__setattr__") (some (some (.builtin "object.__setattr__"))) && ((d.ps.all fun f => eqO (PySem.W.findIn K (.ref (ga K d.name)) f) (some none)) && (eqO (PySem.W.findIn K (.ref (ga K d.name)) "__init__") (some (some (.ref (iAd K d.name)))) &&
  (decide (PySem.W.typeIn K (.ref (iAd K d.name)) = some (.type "function")) && (PySem.W.keepIn K (.ref (ga K d.name)) && (decide (PySem.W.subIn K (.ref (ga K d.name)) (.type "BaseException") = some true) && (decide (PySem.W.subIn K (.ref (ga K d.name)) (.type "ValueError") = some true) &&
  (decide (PySem.W.typeIn K (.ref (ga K d.name)) = some (.type "type")) && (eqO (PySem.W.ks_superIn K (ga K d.name) (ga K d.name) "__init__") (some (some (.builtin "ValueError.__init__"))) && (eqO (PySem.W.nsIn K cStatics "thirdparty.any") (some none) && (iniXB P K (ga K d.name) (iAd K d.name) d.qual &&
  (eqO (PySem.W.findIn K (.ref (ga K d.name)) "__getattribute__") (some (some (.builtin "BaseException.__getattribute__"))) && (eqO (PySem.W.findIn K (.ref (ga K d.name)) "__getattr__") (some none) && (PySem.W.hasDictIn K (ga K d.name) && (eqO (PySem.W.findIn K (.ref (ga K d.name)) "__class__") (some (some (.builtin "object.__class__"))) &&
  (eqO (PySem.W.specialIn K (.builtin "object.__class__") "__get__") (some (some (.builtin "getset_descriptor.__get__"))) && (decide (PySem.W.takesIn K (.builtin "object.__class__") = some true) && decide (PySem.W.mroIn K (ga K d.name) (.type "object") = some true))))))))))))))))))
def cU (K : PySem.W.Frag) (y : Str) : Value := if y = "ValueError" then .type "ValueError" else .ref (ga K y)
def tabB (K : PySem.W.Frag) (rs cs : List Str) : Bool := rs.all fun x => cs.all fun y => decide (PySem.W.kitOne K (.ref (ga K x)) (cU K y) = some (subC x y)) && decide (PySem.W.exmOne K (.ref (ga K x)) (cU K y) = some (subC x y))
abbrev AlX : Type := He.AlD × List FnX × Bool
def obsX (P : Program) (fa : List He.Fa) (fn : List He.DefD) (xs : List XD) (rs cs : List Str) (K : PySem.W.Frag) : AlX := (He.obsD fa fn K, xs.map fun d => fnXo K d.name, (xs.all fun d => d.ok P K) && tabB K rs cs)
def valX (fn : List He.DefD) (xs : List XD) : AlX := (He.valD fn, xs.map XD.val, true)
def SaysX (P : Program) (fa : List He.Fa) (fn : List He.DefD) (xs : List XD) (rs cs : List Str) (K : PySem.W.Frag) : Prop := obsX P fa fn xs rs cs K = valX fn xs
section
variable {P : Program} {fa : List He.Fa} {fn : List He.DefD} {xs : List XD} {rs cs : List Str} {K : PySem.W.Frag}
theorem SaysX.d (c : SaysX P fa fn xs rs cs K) : He.SaysD fa fn K := congrArg (fun z : AlX => z.1) c
end
end L3
end
section
set_option maxHeartbeats 4000000
set_option autoImplicit true
namespace L3
open PySem PySem.Spec PyProof.Rows L2
section
variable {X : Cx} {F : Fm} {Γ : Gm} {Δ : Δs} {γ : Type}
variable {α β β3 δ : Type} {g : TG} {own : List (Str × Nat)} {T : Option γ} {k : β × List δ → Option γ} {Ex : α → Pd} {D : δ → Od} {bd : Gm → α → Gm} {xs : β → List α} {Δ1 : β → Δs} {f : β → α → Option δ} {y : β → α → β3 → δ}
end
section
variable {X : Cx} {W : Bool} {F : Fm} {Γ : Gm} {Δ : Δs} {γ : Type}
end
end L3
end
section
set_option maxHeartbeats 4000000
set_option autoImplicit true
namespace L3
open PySem PySem.Spec PyProof.Rows L2
def pSm {α β : Type} (E : α → Pd) (G : β → Pd) : α ⊕ β → Pd
  | .inl x => E x
  | .inr y => G y
section
variable {X : Cx} {W : Bool} {F : Fm} {Γ : Gm} {Δ : Δs} {γ : Type} {α β α' : Type} {E : α → Pd} {G : α' → Pd}
end
end L3
end
section
set_option maxHeartbeats 4000000
set_option autoImplicit true
namespace L3
open PySem PySem.Spec PyProof.Rows L2
section
variable {X : Cx} {W : Bool} {F : Fm} {Γ : Gm} {Δ : Δs} {γ : Type}
section
variable {a b : Expr} {pos : Pos} {β1 β2 α β : Type} {T : Option γ} {k1 : β1 → Option γ} {k : β1 × β2 → Option γ} {Δ1 : β1 → Δs} {Δ2 : β1 → β2 → Δs} {E : α → Pd} {G : β → Pd} {x : β1 → α × β} {y : β1 → β2 → α × β}
end
section
variable {a b : Expr} {pos : Pos} {β1 β2 α : Type} [DecidableEq α] {T : Option γ} {k1 : β1 → Option γ} {k : β1 × β2 → Option γ} {Δ1 : β1 → Δs} {Δ2 : β1 → β2 → Δs} {E : α → Pd} {x : β1 → α} {y : β1 → β2 → List α}
end
end
end L3
end
section
set_option maxHeartbeats 4000000
set_option autoImplicit true
namespace L3
open PySem PySem.Spec PyProof.Rows L2
section
variable {X : Cx} {W : Bool} {F : Fm} {Γ : Gm} {Δ : Δs} {γ : Type}
end
end L3
end
section
set_option maxHeartbeats 4000000
set_option autoImplicit true
namespace L3
open PySem PySem.Spec PyProof.Rows L2
section
variable {X : Cx}
end
section
variable {X : Cx} {F : Fm} {Γ : Gm} {Δ : Δs} {γ : Type} {κ δ : Type} [DecidableEq κ] [Ky κ]
variable {α β β2 β3 : Type} {g : TG} {own : List (Str × Nat)} {T : Option γ} {k : β × List (κ × δ) → Option γ} {Ex : α → Pd} {D : δ → Od} {bd : Gm → α → Gm} {xs : β → List α} {Δ1 : β → Δs} {f : β → α → Option (κ × δ)} {T2 : β → α → β2 → Option (κ × δ)} {ky : β → α → β2 → κ} {y : β → α → β2 → β3 → δ}
end
end L3
end
section
set_option maxHeartbeats 4000000
set_option autoImplicit true
namespace L3
open PySem PySem.Spec PyProof.Rows L2
section
variable {X : Cx} {W : Bool} {F : Fm} {Γ : Gm} {Δ : Δs} {γ : Type}
section
variable {a : Expr} {n} {p pos : Pos} {β α1 α2 α3 α4 : Type} {T : Option γ} {k : β → Option γ} {Δ1 : β → Δs} {A : α1 → Pd} {B : α2 → Pd} {C : α3 → Pd} {D : α4 → Pd}
end
end
def oSmPr {α β : Type} (A : α → Od) (B : β → Od) : α ⊕ β → List Addr → Hp → V → Prop
  | .inl a => (A a).pr
  | .inr b => (B b).pr
def oSm {α β : Type} (A : α → Od) (B : β → Od) (x : α ⊕ β) : Od where
  pr := oSmPr A B x
  pd := pSm (fun a => (A a).pd) (fun b => (B b).pd) x
  frame := fun {G H H' v} h k f => by
    cases x with
    | inl a => exact (A a).frame h k f
    | inr b => exact (B b).frame h k f
  cells := fun {G H v} h => by
    cases x with
    | inl a => exact (A a).cells h
    | inr b => exact (B b).cells h
  lockd := fun {G H H1 v} h h1 h2 => by
    cases x with
    | inl a => exact (A a).lockd h h1 h2
    | inr b => exact (B b).lockd h h1 h2
section
variable {X : Cx} {W : Bool} {F : Fm} {Γ : Gm} {Δ : Δs} {γ : Type}
end
section
variable {X : Cx} {W : Bool} {F : Fm} {Γ : Gm} {Δ : Δs} {γ : Type} {κ α δ : Type} [DecidableEq κ] [Ky κ] [DecidableEq α] [DecidableEq δ]
variable {a b : Expr} {pos : Pos} {β1 β2 : Type} {T : Option γ} {k1 : β1 → Option γ} {k : β1 × β2 → Option γ} {Δ1 : β1 → Δs} {Δ2 : β1 → β2 → Δs} {E : α → Pd} {G : δ → Pd} {x : β1 → List α ⊕ List (κ × δ)} {y : β1 → β2 → List α ⊕ List (κ × δ)}
end
end L3
end
section
set_option maxHeartbeats 4000000
set_option autoImplicit true
namespace L3
open PySem PySem.Spec PyProof.Rows L2
section
variable {X : Cx} {W : Bool} {F : Fm} {Γ : Gm} {Δ : Δs} {γ : Type}
end
section
variable {X : Cx} {W : Bool} {F : Fm} {Γ : Gm} {Δ : Δs} {γ : Type} {κ α δ : Type} [DecidableEq κ] [Ky κ] [DecidableEq α] [DecidableEq δ]
variable {a b : Expr} {pos : Pos} {β1 β2 : Type} {T : Option γ} {k1 : β1 → Option γ} {k : β1 × β2 → Option γ} {Δ1 : β1 → Δs} {Δ2 : β1 → β2 → Δs} {E : α → Pd} {G : δ → Pd} {x : β1 → List α ⊕ List (κ × δ)} {y : β1 → β2 → List α ⊕ List (κ × δ)}
end
end L3
end
section
set_option maxHeartbeats 4000000
set_option autoImplicit true
namespace L3
open PySem PySem.Spec PyProof.Rows L2
section
variable {X : Cx} {W : Bool} {F : Fm} {Γ : Gm} {Δ : Δs} {γ : Type}
variable {N : Fn γ} {rest : List Stmt}
section
variable {κ α : Type} [DecidableEq κ] [Ky κ] {a b : Expr} {apos cpos : Pos} {β1 β2 : Type} {T : Option γ} {k1 : β1 → Option γ} {Δ1 : β1 → Δs} {Δ2 : β1 → β2 → Δs} {E1 : β1 → Pd} {Ee : α → Pd} {xs : β1 → β2 → List (κ × α)} {j : β1 → β2 → κ}
end
end
end L3
end
section
set_option maxHeartbeats 4000000
set_option autoImplicit true
namespace L3
open PySem PySem.Spec PyProof.Rows L2
section
variable {X : Cx} {W : Bool} {F : Fm} {Γ : Gm} {Δ : Δs} {γ : Type}
variable {N : Fn γ} {rest : List Stmt}
end
end L3
end
section
set_option maxHeartbeats 4000000
set_option autoImplicit true
namespace L3
open PySem PySem.Spec PyProof.Rows L2
section
variable {X : Cx} {pins : List (Addr × Obj)} {σ : SS} {H : Hp} {s : Shared} {a C dx : Addr} {fs : List (Str × V)} {f : Str} {v : V} {A : Around} {E : Value → Shared → Prop}
end
section
variable {X : Cx} {CX : CXT} {k : Nat} {f : Addr} {fd : FuncData} {ps : List Str} {sp : Sp} {E : XK} {m : Str} {pos apos : Pos} {e o : Expr} {es : List Expr} {ta : TE} {t : TA}
end
section
variable {X : Cx} {W : Bool} {F : Fm} {Γ : Gm} {Δ : Δs} {γ : Type}
variable {N : Fn γ} {rest : List Stmt}
end
def fI {ρ : Type} (F : Fm) (P : ρ → Δs) : Fn ρ := ⟨fun _ r D => ∀ σ' H', Hk F (P r) H' → D.nx σ' H', fun h _ => h⟩
section
variable {X : Cx} {W : Bool} {F : Fm} {Γ : Gm} {Δ : Δs} {γ : Type}
end
end L3
end
section
set_option maxHeartbeats 4000000
set_option autoImplicit true
namespace L3
open PySem PySem.Spec PyProof.Rows L2
section
variable {X : Cx} {W : Bool} {F : Fm} {Γ : Gm} {Δ : Δs} {γ : Type}
section
variable {a : Expr} {pos p : Pos} {β α : Type} {T : Option γ} {Δ1 : β → Δs} {E1 : β → Pd} {Ee : α → Pd} {xs : β → List α} {k : β → Option γ}
end
section
variable {a b : Expr} {pos : Pos} {β1 β2 α : Type} {T : Option γ} {k1 : β1 → Option γ} {Δ1 : β1 → Δs} {Δ2 : β1 → β2 → Δs} {E1 : β1 → Pd} {Ee : α → Pd} {xs : β1 → List α} {j : β1 → β2 → Int}
end
section
variable {a : Expr} {lo hi : Option Expr} {p2 pos : Pos} {β1 β2 β3 α : Type} {T : Option γ} {k1 : β1 → Option γ} {k2 : β1 → β2 → Option γ} {k : β1 × β2 × β3 → Option γ} {Ee : α → Pd} {xs : β1 → List α} {o1 : β1 → β2 → Option Int} {o2 : β1 → β2 → β3 → Option Int} {Δ1 : β1 → Δs} {Δ2 : β1 → β2 → Δs} {Δ3 : β1 → β2 → β3 → Δs}
end
section
variable {a b : Expr} {pos : Pos} {β1 β2 α : Type} {T : Option γ} {k1 : β1 → Option γ} {k : β1 × β2 → Option γ} {Δ1 : β1 → Δs} {Δ2 : β1 → β2 → Δs} {Ee : α → Pd} {xs : β1 → List α} {ys : β1 → β2 → List α}
end
section
variable {a b : Expr} {pos : Pos} {β1 β2 α : Type} [DecidableEq α] {T : Option γ} {k1 : β1 → Option γ} {k : β1 × β2 → Option γ} {Δ1 : β1 → Δs} {Δ2 : β1 → β2 → Δs} {E : α → Pd} {x : β1 → α} {y : β1 → β2 → List α}
end
section
variable {o e : Expr} {apos cpos : Pos} {β1 β2 : Type} {T : Option γ} {k1 : β1 → Option γ} {Δ1 : β1 → Δs} {Δ2 : β1 → β2 → Δs} {xs : β1 → List Str} {y : β1 → β2 → Str}
end
end
end L3
end
section
set_option maxHeartbeats 4000000
set_option autoImplicit true
namespace L3
open PySem PySem.Spec PyProof.Rows L2
section
variable {X : Cx} {W : Bool} {F : Fm} {Γ : Gm} {Δ : Δs} {γ : Type}
section
variable {a : Expr} {pos p : Pos} {β : Type} {T : Option γ} {Δ1 : β → Δs} {E1 : β → Pd} {xs : β → List (List Int)} {k : β × List Int → Option γ}
end
end
end L3
end
section
set_option maxHeartbeats 4000000
set_option autoImplicit true
namespace L3
open PySem PySem.Spec PyProof.Rows L2
open PySem.AutoSeq1 (wpAny_loadPart')
section
variable {prog : Program} {w : World} {A : Around} {E : Value → Shared → Prop} {s : Shared}
end
section
variable {X : Cx} {W : Bool} {F : Fm} {Γ : Gm} {Δ : Δs} {γ : Type}
section
variable {a b : Expr} {pos : Pos} {β1 β2 α : Type} [DecidableEq α] {T : Option γ} {k1 : β1 → Option γ} {k : β1 × β2 → Option γ} {Δ1 : β1 → Δs} {Δ2 : β1 → β2 → Δs} {E : α → Pd} {x : β1 → α} {y : β1 → β2 → List α} {E2 : β1 → β2 → Pd}
end
end
end L3
end
section
set_option maxHeartbeats 4000000
set_option autoImplicit true
namespace L3
open PySem PySem.Spec PyProof.Rows L2
section
variable {X : Cx} {W : Bool} {F : Fm} {Γ : Gm} {Δ : Δs} {γ : Type} {a : Expr} {n p pos} {β α1 α2 α3 α4 α5 : Type} {T : Option γ} {k : β → Option γ} {A1 : α1 → Pd} {A2 : α2 → Pd} {A3 : α3 → Pd} {A4 : α4 → Pd} {A5 : α5 → Pd} {Δ1 : β → Δs} {x : β → α1 × α2 × α3 × α4 × α5}
end
section
variable {X : Cx} {W : Bool} {F : Fm} {Γ : Gm} {Δ : Δs} {γ : Type} {a : Expr} {n p pos} {β α1 α2 α3 α4 α5 α6 : Type} {T : Option γ} {k : β → Option γ} {A1 : α1 → Pd} {A2 : α2 → Pd} {A3 : α3 → Pd} {A4 : α4 → Pd} {A5 : α5 → Pd} {A6 : α6 → Pd} {Δ1 : β → Δs} {x : β → α1 × α2 × α3 × α4 × α5 × α6}
end
section
variable {X : Cx} {W : Bool} {F : Fm} {Γ : Gm} {Δ : Δs} {γ : Type} {a : Expr} {n p pos} {β α1 α2 α3 α4 α5 α6 α7 : Type} {T : Option γ} {k : β → Option γ} {A1 : α1 → Pd} {A2 : α2 → Pd} {A3 : α3 → Pd} {A4 : α4 → Pd} {A5 : α5 → Pd} {A6 : α6 → Pd} {A7 : α7 → Pd} {Δ1 : β → Δs} {x : β → α1 × α2 × α3 × α4 × α5 × α6 × α7}
end
section
variable {X : Cx} {W : Bool} {F : Fm} {Γ : Gm} {Δ : Δs} {γ : Type}
section
variable {a : Expr} {n p p2 pos : Pos} {β α δ : Type} {T : Option γ} {k : β → Option γ} {E : α → Pd} {G : δ → Pd} {Δ1 : β → Δs}
end
variable {N : Fn γ} {rest : List Stmt}
end
end L3
end
section
set_option maxHeartbeats 4000000
set_option autoImplicit true
namespace L3
open PySem PySem.Spec PyProof.Rows L2 PySem.SxX
def TpK : HO → Prop
  | .tup _ => True
  | .frz _ (.tup _) => True
  | _ => False
def Tpy (H H' : Hp) : Prop := ∀ a o, TpK o → H a = some o → H' a = some o
section
variable {X : Cx} {W : Bool} {F : Fm} {Γ : Gm} {Δ : Δs} {γ : Type}
end
section
variable {X : Cx} {CX : CXT} {k : Nat} {f C : Addr} {fd : FuncData} {ps : List Str} {sp : Sp} {x : Str} {p pos : Pos} {e : Expr} {es : List Expr} {t : TA}
end
section
variable {X : Cx} {W : Bool} {F : Fm} {Γ : Gm} {Δ : Δs} {γ ε : Type}
variable {fI : Addr} {kk : Nat} {fd : FuncData} {ps : List Str} {α ρ β : Type} {cn : Str} {A : α → List Pd} {Mf : α → Option (Except ε ρ)} {ns : List Str} {R : ρ → List Pd} {C : Addr} {p pos : Pos} {e : Expr} {es : List Expr} {T : Option γ} {xs : β → α} {kc : β × ρ → Option γ} {D : β × ρ → Od} {Kx : Xk ε}
end
section
variable {X : Cx} {F : Fm} {Γ : Gm} {Δ : Δs} {γ ε : Type} {N : Fn γ} {rest : List Stmt} {ιx : ε → γ} {Kx : Xk ε} {Δx : Δs} {Nx : SS → Hp → Prop} {Wx : WX}
end
end L3
end
section
set_option maxHeartbeats 4000000
set_option autoImplicit true
namespace L3
open PySem PySem.Spec PyProof.Rows L2
section
variable {X : Cx} {W : Bool} {F : Fm} {Γ : Gm} {Δ : Δs} {γ : Type}
end
section
variable {X : Cx} {W : Bool} {F : Fm} {Γ : Gm} {Δ : Δs} {γ : Type} {a : Expr} {pos p : Pos} {β : Type} {T : Option γ} {Δ1 : β → Δs} {E1 : β → Pd} {xs : β → List Int} {k : β × Int → Option γ}
end
end L3
end
section
set_option maxHeartbeats 4000000
set_option autoImplicit true
namespace L3
open PySem PySem.Spec PyProof.Rows L2 PySem.SxX
section
variable {X : Cx} {W : Bool} {F : Fm} {Γ : Gm} {Δ : Δs} {γ : Type}
section
variable {a : Expr} {n} {p pos : Pos} {β α1 α2 α3 α4 α5 : Type} {T : Option γ} {k : β → Option γ} {Δ1 : β → Δs} {A : α1 → Pd} {B : α2 → Pd} {C : α3 → Pd} {D : α4 → Pd} {E : α5 → Pd}
end
end
section
variable {P : Pd → V → Prop} {gV : List V → List V → List V} {As : List Pd} {vs zs : List V}
end
section
variable {X : Cx} {CX : CXT} {k n : Nat} {f C : Addr} {fd : FuncData} {ps ks : List Str} {sp : Sp} {x : Str} {p pos : Pos} {e : Expr} {es : List Expr} {kws : List Keyword} {t tk : TA} {g : List Value → List Value → List Value} {gV : List V → List V → List V}
end
section
variable {X : Cx} {W : Bool} {F : Fm} {Γ : Gm} {Δ : Δs} {γ ε : Type}
variable {fI : Addr} {kk n : Nat} {fd : FuncData} {ps ks : List Str} {α ρ β1 β2 : Type} {cn : Str} {A : α → List Pd} {Mf : α → Option (Except ε ρ)} {ns : List Str} {R : ρ → List Pd} {C : Addr} {p pos : Pos} {e : Expr} {es : List Expr} {kws : List Keyword} {T : Option γ} {kc : (β1 × β2) × ρ → Option γ} {D : (β1 × β2) × ρ → Od} {Kx : Xk ε} {g : List Value → List Value → List Value} {gV : List V → List V → List V}
end
end L3
end
section
set_option maxHeartbeats 4000000
set_option autoImplicit true
namespace L3
open PySem PySem.Spec PyProof.Rows L2 PySem.SxX L2H
section
variable {P : Program} {w : World} {K : PySem.W.Frag} {mg : Str → Option Value} {base : Heap} {CX : CXT} {k : Nat} {f : Addr} {fd : FuncData} {N ps : List Str} {sp : Sp} {x qual : Str} {params : Arguments} {body : List Stmt} {scope : Scope} {dvs : List V} {kws : List (Str × V)}
end
section
variable {X : Cx} {CX : CXT} {k : Nat} {f : Addr} {fd : FuncData} {ps : List Str} {sp : Sp}
end
section
variable {X : Cx} {W : Bool} {F : Fm} {Γ : Gm} {Δ : Δs} {γ : Type}
end
end L3
end
section
set_option maxHeartbeats 4000000
set_option autoImplicit true
namespace L3
open PySem PySem.Spec PyProof.Rows L2
section
variable {X : Cx} {W : Bool} {F : Fm} {Γ : Gm} {Δ : Δs} {γ : Type}
theorem Foc.inl {α β : Type} {d : Od} {v : V} {A : α → Od} {B : β → Od} {x : α ⊕ β} {back : α ⊕ β → Od} {u : V} {H : Hp} {y : α} (f : Foc d v (oSm A B) x back u H) (e : x = .inl y) : Foc d v A y (fun y => back (.inl y)) u H := fun H1 G g1 hd nd => by
  subst e
  obtain ⟨G2, h, sb, nd2, tr⟩ := f H1 G g1 hd nd
  exact ⟨G2, h, sb, nd2, fun H' y G3 kp fz nd3 ds h3 => tr H' (.inl y) G3 kp fz nd3 ds h3⟩
theorem Foc.inr {α β : Type} {d : Od} {v : V} {A : α → Od} {B : β → Od} {x : α ⊕ β} {back : α ⊕ β → Od} {u : V} {H : Hp} {y : β} (f : Foc d v (oSm A B) x back u H) (e : x = .inr y) : Foc d v B y (fun y => back (.inr y)) u H := fun H1 G g1 hd nd => by
  subst e
  obtain ⟨G2, h, sb, nd2, tr⟩ := f H1 G g1 hd nd
  exact ⟨G2, h, sb, nd2, fun H' y G3 kp fz nd3 ds h3 => tr H' (.inr y) G3 kp fz nd3 ds h3⟩
end
end L3
end
section
set_option maxHeartbeats 4000000
set_option autoImplicit true
namespace L3
open PySem PySem.Spec PyProof.Rows L2
def FlatD (d : Od) : Prop := ∀ G H H' v, d.pr G H v → (∀ a ∈ G, H' a = H a) → Tpy H H' → d.pr G H' v
inductive FlatDs : List Od → Prop
  | nil : FlatDs []
  | cons {d : Od} {ds : List Od} : FlatD d → FlatDs ds → FlatDs (d :: ds)
theorem FlatDs.own {H H' : Hp} (t : Tpy H H') : ∀ {ds : List Od} {vs : List V} {gs : List (List Addr)}, FlatDs ds → Own3 (fun d : Od => d) H ds vs gs → (∀ a ∈ gs.flatten, H' a = H a) → Own3 (fun d : Od => d) H' ds vs gs
  | _, _, _, _, .nil, _ => .nil
  | _, _, _, .cons f fs, .cons r q, k => by
    rw [List.flatten_cons] at k
    exact .cons (f _ H H' _ r (fun a ha => k a (List.mem_append_left _ ha)) t) (FlatDs.own t fs q fun a ha => k a (List.mem_append_right _ ha))
section
variable {X : Cx} {W : Bool} {F : Fm} {Γ : Gm} {Δ : Δs} {γ : Type}
variable {N : Fn γ} {rest : List Stmt}
end
section
variable {X : Cx} {W : Bool} {F : Fm} {Γ : Gm} {Δ : Δs} {γ : Type}
end
end L3
end
section
set_option maxHeartbeats 4000000
set_option autoImplicit true
namespace L3
open PySem PySem.Spec PyProof.Rows L2
section
variable {X : Cx} {W : Bool} {F : Fm} {Γ : Gm} {Δ : Δs} {γ : Type}
section
variable {a b : Expr} {pos : Pos} {β1 β2 : Type} {T : Option γ} {k1 : β1 → Option γ} {k : β1 × β2 → Option γ} {Δ1 : β1 → Δs} {Δ2 : β1 → β2 → Δs} {xs : β1 → List Int} {ys : β1 → β2 → List Int}
end
end
end L3
end
section
set_option maxHeartbeats 4000000
namespace L3
open PySem PySem.Spec PyProof.Rows L2
section
variable {prog : Program} {w : World} {A : Around} {R : Result → Shared → Prop} {s : Shared} {kx vx t0 i0 t1 i1 : Expr} {ifs0 ifs1 : List Expr} {scope : Scope} {pos : Pos} {it acc : Value} {env : Env}
end
end L3
end
section
set_option maxHeartbeats 4000000
namespace L3
open PySem PySem.Spec PyProof.Rows L2
section
variable {X : Cx}
end
end L3
end
section
set_option maxHeartbeats 4000000
namespace L3
open PySem PySem.Spec PyProof.Rows L2
section
variable {κ δ : Type} [DecidableEq κ] [Ky κ]
variable {X : Cx} {F : Fm} {Γ : Gm} {Δ : Δs} {γ : Type}
variable {α α2 β β4 β5 β6 : Type} {g g2 : TG} {own : List (Str × Nat)} {vs1 : List Nat} {T : Option γ} {k : β × List (κ × δ) → Option γ} {Ex : α → Pd} {Ex2 : α2 → Pd} {D : δ → Od} {bd : Gm → α → Gm} {bd2 : Gm → α2 → Gm} {xs : β → List α} {C : β → Δs} {f : β → α → Option (List (κ × δ))}
    {ys : β → α → β4 → List α2} {h : β → α → β4 → α2 → Option (κ × δ)} {T2 : β → α → β4 → α2 → β5 → Option (κ × δ)} {ky : β → α → β4 → α2 → β5 → κ} {vy : β → α → β4 → α2 → β5 → β6 → δ}
end
end L3
namespace L3
open PySem PySem.Spec PyProof.Rows L2
section
variable {X : Cx} {W : Bool} {F : Fm} {Γ : Gm} {Δ : Δs} {γ : Type}
end
end L3
end
section
set_option maxHeartbeats 4000000
set_option autoImplicit true
namespace L3
open PySem PySem.Spec PyProof.Rows L2
section
variable {X : Cx} {W : Bool} {F : Fm} {Γ : Gm} {Δ : Δs} {γ : Type}
end
end L3
end
section
set_option maxHeartbeats 4000000
set_option autoImplicit true
namespace L3
open PySem PySem.Spec PyProof.Rows L2
section
variable {X : Cx} {W : Bool} {F : Fm} {Γ : Gm} {Δ : Δs} {γ : Type}
variable {N : Fn γ}
end
end L3
end
section
set_option maxHeartbeats 4000000
set_option autoImplicit true
namespace L3
open PySem PySem.Spec PyProof.Rows L2
section
variable {α β α' β' δ : Type} {E : α → Pd} {G : β → Pd} {E' : α' → Pd} {G' : β' → Pd} {D : δ → Pd}
end
section
variable {X : Cx} {W : Bool} {F : Fm} {Γ : Gm} {Δ : Δs} {γ : Type}
section
variable {α β : Type} {E : α → Pd} {G : β → Pd} {A : α → Od} {B : β → Od}
end
section
variable {a b : Expr} {pos p : Pos} {β1 β2 : Type} {T : Option γ} {k1 : β1 → Option γ} {k : β1 × β2 → Option γ} {c : β1 → Bool} {d : β1 → β2 → Bool} {Δ1 : β1 → Δs} {Δ2 : β1 → β2 → Δs}
end
end
end L3
end
section
set_option maxHeartbeats 4000000
set_option autoImplicit true
namespace L3
open PySem PySem.Spec PyProof.Rows L2
section
variable {α β δ α' : Type} {A : α → Od} {B : β → Od} {D : δ → Od} {E : α → Pd} {E' : α' → Pd}
end
section
variable {X : Cx} {W : Bool} {F : Fm} {Γ : Gm} {Δ : Δs} {γ : Type}
end
end L3
end
section
set_option maxHeartbeats 4000000
set_option autoImplicit true
namespace L3
open PySem PySem.Spec PyProof.Rows L2
section
variable {X : Cx} {W : Bool} {F : Fm} {Γ : Gm} {Δ : Δs} {γ : Type}
section
variable {α β β2 β3 δ S : Type} {g : TG} {own : List (Str × Nat)} {T : Option γ} {k0 : β → Option γ} {k : β × (List δ × S) → Option γ} {out : β × (List δ × S) → List δ} {Ex : α → Pd} {Ee : δ → Pd} {bd : Gm → α → Gm} {xs : β → List α} {Δ1 : β → Δs} {C : β → S → Δs} {s0 : β → S} {f : β → α → S → Option (Option δ × S)}
    {c : β → α → S → β2 → Bool} {s2 : β → α → S → β2 → S} {T2 : β → α → S → β2 → Option (Option δ × S)} {y : β → α → S → β2 → β3 → δ} {s3 : β → α → S → β2 → β3 → S}
end
end
end L3
end
section
set_option maxHeartbeats 4000000
set_option autoImplicit true
namespace L3
open PySem PySem.Spec PyProof.Rows L2
section
variable {X : Cx} {W : Bool} {F : Fm} {Γ : Gm} {Δ : Δs} {γ : Type}
section
variable {a b : Expr} {pos : Pos} {β1 β2 : Type} {T : Option γ} {k1 : β1 → Option γ} {k : β1 × β2 → Option γ} {Δ1 : β1 → Δs} {Δ2 : β1 → β2 → Δs} {i : β1 → Int} {v0 : V} {xs : β1 → β2 → List Int} {prm : Option Nat}
end
variable {α ρ β1 β2 : Type} {fI : Addr} {kk n : Nat} {fd : FuncData} {ps ks : List Str} {cn : Str} {A : α → List Pd} {Mf : α → Option ρ} {ns : List Str} {R : ρ → List Pd} {C : Addr} {p pos : Pos} {e : Expr} {es : List Expr} {kws : List Keyword} {T : Option γ} {kc : (β1 × β2) × ρ → Option γ} {D : (β1 × β2) × ρ → Od} {g : List Value → List Value → List Value} {gV : List V → List V → List V}
end
end L3
end
section
set_option maxHeartbeats 4000000
set_option autoImplicit true
namespace L3
open PySem PySem.Spec PyProof.Rows L2
section
variable {X : Cx} {W : Bool} {F : Fm} {Γ : Gm} {Δ : Δs} {γ : Type}
end
end L3
end
section
set_option maxHeartbeats 4000000
set_option autoImplicit true
namespace L3
open PySem PySem.Spec PyProof.Rows L2
section
variable {X : Cx} {W : Bool} {F : Fm} {Γ : Gm} {Δ : Δs} {γ : Type}
end
end L3
end
section
set_option maxHeartbeats 1000000
namespace L3
open PySem PySem.Spec PyProof.Rows L2 RZ
open PySem.Sem (wp)
section
variable {w : World} {prog : Program} {s : Shared} {A : Around} {E : Value → Shared → Prop}
end
section
variable {w : World} {prog : Program} {s : Shared} {A : Around} {E : Value → Shared → Prop}
end
section
variable {X : Cx} {W : Bool} {F : Fm} {Γ : Gm} {Δ : Δs} {γ : Type}
end
end L3
end
section
set_option maxHeartbeats 4000000
set_option autoImplicit true
namespace L3
open PySem PySem.Spec PyProof.Rows L2
section
variable {α1 α2 α3 α4 α5 : Type} {A : α1 → Pd} {B : α2 → Pd} {C : α3 → Pd} {D : α4 → Pd} {E : α5 → Pd}
end
section
variable {X : Cx} {W : Bool} {F : Fm} {Γ : Gm} {Δ : Δs} {γ : Type}
end
section
variable {α1 α2 α3 α4 α5 : Type} {A : α1 → Pd} {B : α2 → Pd} {C : α3 → Pd} {D : α4 → Pd} {E : α5 → Pd}
end
section
variable {X : Cx} {W : Bool} {F : Fm} {Γ : Gm} {Δ : Δs} {γ : Type} {a b : Expr} {pos : Pos} {β1 β2 : Type} {T : Option γ} {k1 : β1 → Option γ} {k : β1 × β2 → Option γ} {Δ1 : β1 → Δs} {Δ2 : β1 → β2 → Δs}
end
section
variable {X : Cx} {W : Bool} {F : Fm} {Γ : Gm} {Δ : Δs} {γ : Type} {a b : Expr} {pos : Pos} {α β1 β2 : Type} {Ee : α → Pd} {T : Option γ} {k1 : β1 → Option γ} {k : β1 × β2 → Option γ} {Δ1 : β1 → Δs} {Δ2 : β1 → β2 → Δs}
end
section
variable {X : Cx} {W : Bool} {F : Fm} {Γ : Gm} {Δ : Δs} {γ : Type}
end
end L3
end
section
set_option maxHeartbeats 4000000
set_option autoImplicit true
namespace L3
open PySem PySem.Spec PyProof.Rows L2
section
variable {X : Cx} {W : Bool} {F : Fm} {Γ : Gm} {Δ : Δs} {γ ε : Type}
variable {fI : Addr} {kk : Nat} {fd : FuncData} {ps : List Str} {α ρ β : Type} {cn : Str} {A : α → List Pd} {Mf : α → Option (Except ε ρ)} {ns : List Str} {R : ρ → List Od} {C : Addr} {p pos : Pos} {e : Expr} {es : List Expr} {T : Option γ} {xs : β → α} {kc : β × ρ → Option γ} {D : β × ρ → Od} {Kx : Xk ε}
end
section
variable {X : Cx} {F : Fm} {Γ : Gm} {Δ : Δs} {γ ε : Type} {N : Fn γ} {rest : List Stmt} {ιx : ε → γ} {Kx : Xk ε} {Δx : Δs} {Nx : SS → Hp → Prop} {Wx : WX}
end
section
variable {X : Cx} {W : Bool} {F : Fm} {Γ : Gm} {Δ : Δs} {γ : Type}
variable {N : Fn γ}
end
section
variable {X : Cx} {W : Bool} {F : Fm} {Γ : Gm} {Δ : Δs} {γ : Type}
end
end L3
end
section
set_option maxHeartbeats 4000000
namespace L3
open PySem PySem.Spec PyProof.Rows L2
section
variable {Δ : Δs}
end
section
variable {X : Cx} {W : Bool} {F : Fm} {Γ : Gm} {Δ : Δs} {γ : Type}
end
section
variable {κ α : Type} [DecidableEq κ] [Ky κ] {X : Cx} {W : Bool} {F : Fm} {Γ : Gm} {Δ : Δs} {γ : Type} {N : Fn γ} {rest : List Stmt}
end
section
variable {X : Cx} {W : Bool} {F : Fm} {Γ : Gm} {Δ : Δs} {γ β : Type} {N : Fn γ} {rest : List Stmt}
end
end L3
end
section
set_option maxHeartbeats 4000000
namespace L3
open PySem PySem.Spec PyProof.Rows L2
section
variable {κ : Type} [DecidableEq κ] [Ky κ] {X : Cx} {F : Fm} {Γ : Gm} {Δ : Δs} {γ : Type}
end
section
variable {X : Cx} {F : Fm} {Γ : Gm} {Δ : Δs} {γ : Type}
end
section
variable {α1 α2 α3 : Type} {A : α1 → Pd} {B : α2 → Pd} {C : α3 → Pd}
end
section
variable {X : Cx} {W : Bool} {F : Fm} {Γ : Gm} {Δ : Δs} {γ : Type} {a b : Expr} {pos : Pos} {β1 β2 α : Type} {T : Option γ} {k1 : β1 → Option γ} {k : β1 × β2 → Option γ} {Δ1 : β1 → Δs} {Δ2 : β1 → β2 → Δs} {E : α → Pd} {x : β1 → α} {y : β1 → β2 → α}
end
end L3
end
section
set_option maxHeartbeats 4000000
namespace L3
open PySem PySem.Spec PyProof.Rows L2
section
variable {κ δ : Type} [DecidableEq κ] [Ky κ] {X : Cx} {F : Fm} {Γ : Gm} {Δ : Δs} {γ : Type}
variable {α β β2 β3 β4 : Type} {g : TG} {own : List (Str × Nat)} {T : Option γ} {k : β × List (κ × δ) → Option γ} {Ex : α → Pd} {D : δ → Od} {bd : Gm → α → Gm} {xs : β → List α} {Δ1 : β → Δs} {f : β → α → Option (Option (κ × δ))} {c : β → α → β2 → Bool} {T2 : β → α → β2 → Option (Option (κ × δ))} {T3 : β → α → β2 → β3 → Option (Option (κ × δ))} {ky : β → α → β2 → β3 → κ} {y : β → α → β2 → β3 → β4 → δ}
end
end L3
end
section
set_option maxHeartbeats 4000000
namespace L3
open PySem PySem.Spec PyProof.Rows L2
section
variable {κ δ : Type} [DecidableEq κ] [Ky κ] {X : Cx} {W : Bool} {F : Fm} {Γ : Gm} {Δ : Δs} {γ : Type}
variable {α β β2 β3 β4 : Type} {g : TG} {own : List (Str × Nat)} {T : Option γ} {k : β × List (κ × δ) → Option γ} {Ex : α → Pd} {E : δ → Pd} {bd : Gm → α → Gm} {xs : β → List α} {Δ1 : β → Δs} {f : β → α → Option (Option (κ × δ))} {c : β → α → β2 → Bool} {T2 : β → α → β2 → Option (Option (κ × δ))} {T3 : β → α → β2 → β3 → Option (Option (κ × δ))} {ky : β → α → β2 → β3 → κ} {y : β → α → β2 → β3 → β4 → δ}
end
end L3
end
section
set_option maxHeartbeats 4000000
namespace L3
open PySem PySem.Spec PyProof.Rows L2
section
variable {κ α : Type} [DecidableEq κ] [Ky κ]
variable {X : Cx} {W : Bool} {F : Fm} {Γ : Gm} {Δ : Δs} {γ : Type}
end
end L3
end
section
set_option maxHeartbeats 4000000
namespace L3
open PySem PySem.Spec PyProof.Rows L2
section
variable {κ α : Type} [DecidableEq κ] [Ky κ] {X : Cx} {W : Bool} {F : Fm} {Γ : Gm} {Δ : Δs} {γ : Type}
end
section
variable {X : Cx} {F : Fm} {Γ : Gm} {Δ : Δs} {γ : Type}
end
end L3
end
section
set_option maxHeartbeats 4000000
namespace L3
open PySem PySem.Spec PyProof.Rows L2
section
variable {X : Cx} {W : Bool} {F : Fm} {Γ : Gm} {Δ : Δs} {γ : Type}
variable {N : Fn γ}
end
end L3
end
section
set_option maxHeartbeats 4000000
namespace L3
open PySem PySem.Spec PyProof.Rows L2
section
variable {X : Cx} {W : Bool} {F : Fm} {Γ : Gm} {Δ : Δs} {γ : Type}
end
section
variable {X : Cx} {W : Bool} {F : Fm} {Γ : Gm} {Δ : Δs} {γ : Type}
end
section
variable {ε : Type} {Kx : Xk ε} {F : Fm} {Δx : Δs} {Nx : SS → Hp → Prop} {Wx : WX}
end
end L3
end
section
set_option maxHeartbeats 4000000
set_option autoImplicit true
namespace L3
open PySem PySem.Spec PyProof.Rows L2
section
variable {X : Cx} {W : Bool} {F : Fm} {Γ : Gm} {Δ : Δs} {γ : Type}
end
section
variable {X : Cx} {W : Bool} {F : Fm} {Γ : Gm} {Δ : Δs} {γ : Type}
variable {N : Fn γ}
end
section
variable {X : Cx} {W : Bool} {F : Fm} {Γ : Gm} {Δ : Δs} {γ : Type}
end
end L3
end
section
set_option maxHeartbeats 4000000
set_option autoImplicit true
namespace L3
open PySem PySem.Spec PyProof.Rows L2
section
variable {M : Model} {A : Around} {E : Value → Shared → Prop} {s : Shared} {K : PySem.W.Frag} {x C f : Addr} {ox : Obj} {od : Option Obj} {v : Value}
end
section
variable {X : Cx} {CX : CXT} {k : Nat} {f : Addr} {fd : FuncData} {ps : List Str} {sp : Sp} {E : XK}
end
section
variable {X : Cx} {W : Bool} {F : Fm} {Γ : Gm} {Δ : Δs} {γ : Type}
end
section
variable {prog : Program} {w : World} {A : Around} {E : Value → Shared → Prop} {s : Shared} {r d : Addr} {n : Nat} {P : Nat → Value → Prop} {OK : Heap → Prop}
end
section
variable {X : Cx} {W : Bool} {F : Fm} {Γ : Gm} {Δ : Δs} {γ : Type} {κ α : Type} [DecidableEq κ] [Ky κ]
end
section
variable {κ α : Type} [DecidableEq κ] [Ky κ]
end
section
variable {X : Cx} {W : Bool} {F : Fm} {Γ : Gm} {Δ : Δs} {γ : Type} {κ α : Type} [DecidableEq κ] [Ky κ]
end
section
variable {X : Cx} {W : Bool} {F : Fm} {Γ : Gm} {Δ : Δs} {γ ε : Type} {Kx : Xk ε} {ιx : ε → γ} {Wx : WX}
end
section
variable {X : Cx} {F : Fm} {Γ : Gm} {Δ : Δs} {γ : Type}
end
end L3
end
section
set_option maxHeartbeats 4000000
set_option autoImplicit true
namespace L3
open PySem PySem.Spec PyProof.Rows L2 PySem.SxX
section
variable {X : Cx} {x n x2 n2 : Str} {c c2 : Value} {i i2 : Nat} {body suite suite2 : List Stmt} {b₀ b₂ : Stmt} {np pos pos' np2 pos2 : Pos} {tb : WX → TS} {ts ts2 : Addr → Value → Option Addr → TS} {Wout : WX}
end
section
variable {X : Cx} {W : Bool} {F : Fm} {Γ : Gm} {Δ : Δs} {γ ε : Type} {Kx : Xk ε}
end
end L3
end
section
set_option maxHeartbeats 4000000
set_option autoImplicit true
namespace L3
open PySem PySem.Spec PyProof.Rows L2
section
variable {F : Fm} {Γ : Gm} {Δ : Δs} {σ : SS} {H : Hp} {j : Nat} {c : Cell}
end
section
variable {F : Fm} {Γ : Gm} {Δ : Δs} {σ : SS} {H : Hp} {j : Nat}
end
end L3
end
section
set_option maxHeartbeats 4000000
set_option autoImplicit true
namespace L3
open PySem PySem.Spec PyProof.Rows L2
section
variable {F : Fm} {Γ : Gm} {Δ R : Δs} {σ : SS} {H : Hp}
end
section
variable {P : Program} {w : World} {K : PySem.W.Frag} {mg : Str → Option Value} {base : Heap} {x qual : Str} {params : Arguments} {body : List Stmt} {scope : Scope} {dvs : List V} {kws : List (Str × V)} {f : Addr} {fd : FuncData} {Nn ps : List Str} {k n : Nat} {α ρ ε : Type} {A : α → List Pd} {C : α → List Cell} {Cr : α → ρ → List Cell}
end
end L3
end
section
set_option maxHeartbeats 4000000
set_option autoImplicit true
namespace L3
open PySem PySem.Spec PyProof.Rows L2 PySem.SxX
section
variable {X : Cx} {CX : CXT} {k : Nat} {f C : Addr} {fd : FuncData} {ps : List Str} {sp : Sp} {E : SS → XK} {m : Str} {pos apos : Pos} {e o : Expr} {es : List Expr} {ta : TE} {t : TA}
end
section
variable {X : Cx} {F : Fm} {Γ : Gm} {Δ : Δs} {γ : Type} {f : Addr} {fd : FuncData} {ps : List Str} {kk : Nat} {α ρ β ε : Type} {A : α → List Pd} {C : α → List Cell} {Cr : α → ρ → List Cell} {xs : β → α} {T : Option γ} {e : Expr} {es : List Expr} {x : Str} {p pos : Pos} {Δ1 R : β → Δs} {Δ2 : β → ρ → Δs} {kc : β × ρ → Option γ}
variable {o : Expr} {apos : Pos} {m cn : Str} {β0 : Type} {k0 : β0 → Option γ} {Δ0 : β0 → Δs} {v : β0 → V} {ns : List Str} {ds : β0 → List Od} {prm : Option Nat} {Cc : Addr}
end
end L3
end
section
set_option maxHeartbeats 4000000
set_option autoImplicit true
namespace L3
open PySem PySem.Spec PyProof.Rows L2 PySem.SxX
section
variable {X : Cx} {F : Fm} {Γ : Gm} {Δ : Δs} {γ : Type} {f : Addr} {fd : FuncData} {ps : List Str} {kk : Nat} {α ρ β ε : Type} {A : α → List Pd} {C : α → List Cell} {Cr : α → ρ → List Cell} {T : Option γ} {e : Expr} {es : List Expr} {x : Str} {p pos : Pos} {o : Expr} {apos : Pos} {m cn : Str} {β0 : Type} {k0 : β0 → Option γ} {Δ0 : β0 → Δs} {v : β0 → V} {ns : List Str} {ds : β0 → List Od} {prm : Option Nat} {Cc : Addr} {Mf : α → Option (Except ε ρ)} {Rp : ρ → Pd} {Kx : Xk ε} {Cx : α → List Cell} {ιx : ε → γ} {Wx : WX}
section
variable {xs : β → α} {Δ1 R : β → Δs} {Δ2 : β → ρ → Δs} {kc : β × ρ → Option γ}
end
end
section
variable {X : Cx} {W : Bool} {F : Fm} {Γ : Gm} {Δ : Δs} {γ β ε : Type} {T : Option γ} {k : β → Option γ} {e : Expr}
end
section
variable {X : Cx} {F : Fm} {Γ : Gm} {Δ : Δs} {γ : Type} {T : Option γ} {N : Fn γ} {st : List Stmt}
end
end L3
end
section
set_option maxHeartbeats 4000000
set_option autoImplicit true
namespace L3
open PySem PySem.Spec PyProof.Rows L2 PySem.SxX
section
variable {X : Cx} {CX : CXT} {k : Nat} {C p g a dx : Addr} {fs : List (Str × V)} {f : Str} {fd : FuncData} {ps : List Str} {sp : Sp} {E : XK} {e : Expr} {pos : Pos} {ta : TE}
end
section
variable {X : Cx} {W : Bool} {F : Fm} {Γ : Gm} {Δ : Δs} {γ : Type} {fd : FuncData} {ps : List Str} {kk : Nat} {α ρ β : Type} {T : Option γ} {e : Expr}
end
open He
def pAd (K : PySem.W.Frag) (c f : Str) : Addr := match PySem.W.findIn K (.ref (ga K c)) f with
  | some (some (.ref p)) => p
  | _ => 0
def gAd (K : PySem.W.Frag) (c f : Str) : Addr := match PySem.W.recIn K (pAd K c f) "property" with
  | some (.ref g :: _) => g
  | _ => 0
structure PrD where
  cls : Str
  nm : Str
  d : He.DefD
def fnWA (K : PySem.W.Frag) (a : Addr) : FnW := match K.lookup a with
  | some ⟨_, _, .func fd, _⟩ => some (fd.name, fd.qualname, fd.params, fd.body, fd.scope, fd.globals, fd.closure, fd.builtins)
  | _ => none
def okA (K : PySem.W.Frag) (a : Addr) (d : He.DefD) : Bool := PySem.W.keepIn K (.ref a) && (match K.lookup a with
  | some ⟨_, _, .func fd, _⟩ => PySem.W.codeIn K fd.code d.qual && (dflB K fd.defaults (d.dvs K) && kwdB K fd.kwdefaults (d.kws K))
  | _ => false)
def PrD.ok (K : PySem.W.Frag) (d : PrD) : Bool := eqO (PySem.W.findIn K (.ref (ga K d.cls)) d.nm) (some (some (.ref (pAd K d.cls d.nm)))) && (decide (PySem.W.specialIn K (.ref (pAd K d.cls d.nm)) "__get__" = some (some (.builtin "property.__get__"))) && (decide (PySem.W.takesIn K (.ref (pAd K d.cls d.nm)) = some true) && ((match PySem.W.recIn K (pAd K d.cls d.nm) "property" with
  | some (.ref g :: _) => decide (g = gAd K d.cls d.nm)
  | _ => false) && okA K (gAd K d.cls d.nm) d.d)))
inductive Qf where
  | isF (c : Str)
  | kit (a b : Str ⊕ String) (r : Bool)
def qv (K : PySem.W.Frag) : Str ⊕ String → Value
  | .inl c => .ref (ga K c)
  | .inr n => .type n
def Qf.ok (K : PySem.W.Frag) : Qf → Bool
  | .isF c => decide (PySem.W.findIn K (.ref (ga K c)) "__class__" = some (some (.builtin "object.__class__"))) && (decide (PySem.W.specialIn K (.builtin "object.__class__") "__get__" = some (some (.builtin "getset_descriptor.__get__"))) && (decide (PySem.W.takesIn K (.builtin "object.__class__") = some true) && decide (PySem.W.mroIn K (ga K c) (.type "object") = some true)))
  | .kit a b r => decide (PySem.W.kitOne K (qv K a) (qv K b) = some r)
abbrev AlP : Type := AlX × Bool × List FnW
def obsP (P : Program) (fa : List He.Fa) (fn : List He.DefD) (xs : List XD) (rs cs : List Str) (pr : List PrD) (qs : List Qf) (K : PySem.W.Frag) : AlP := (obsX P fa fn xs rs cs K, (pr.all fun d => d.ok K) && qs.all fun q => q.ok K, pr.map fun d => fnWA K (gAd K d.cls d.nm))
def valP (fn : List He.DefD) (xs : List XD) (pr : List PrD) : AlP := (valX fn xs, true, pr.map fun d => d.d.val)
def SaysP (P : Program) (fa : List He.Fa) (fn : List He.DefD) (xs : List XD) (rs cs : List Str) (pr : List PrD) (qs : List Qf) (K : PySem.W.Frag) : Prop := obsP P fa fn xs rs cs pr qs K = valP fn xs pr
def obsPG (n : Nat) (P : Program) (fa : List He.Fa) (fn : List He.DefD) (xs : List XD) (rs cs : List Str) (pr : List PrD) (qs : List Qf) (g : Addr → Option Obj) : AlP := obsP P fa fn xs rs cs pr qs (He.frG g (cStatics :: He.asD g n))
def hookP (n : Nat) (P : Program) (fa : List He.Fa) (fn : List He.DefD) (xs : List XD) (rs cs : List Str) (pr : List PrD) (qs : List Qf) : PySem.W.Hook where
  α := AlP
  obs := fun s => obsPG n P fa fn xs rs cs pr qs s.heap.get?
  val := fun _ => valP fn xs pr
  says := fun _ h => ∃ K : PySem.W.Frag, K.In h ∧ SaysP P fa fn xs rs cs pr qs K
  of := fun _ _ e => ⟨_, He.frG_in, e⟩
  keeps := fun _ _ _ ⟨K, hK, c⟩ k => ⟨K, PySem.W.Frag.In.keeps hK k, c⟩
theorem obsPG_eq {n : Nat} {P : Program} {fa : List He.Fa} {fn : List He.DefD} {xs : List XD} {rs cs : List Str} {pr : List PrD} {qs : List Qf} {g : Addr → Option Obj} {s : Shared} (h : ∀ a, g a = s.heap.get? a) : obsPG n P fa fn xs rs cs pr qs g = (hookP n P fa fn xs rs cs pr qs).obs s := by
  have e : g = s.heap.get? := funext h
  rw [e] <;> rfl
section
variable {P : Program} {fa : List He.Fa} {fn : List He.DefD} {xs : List XD} {rs cs : List Str} {prs : List PrD} {qs : List Qf} {K : PySem.W.Frag}
theorem SaysP.x (c : SaysP P fa fn xs rs cs prs qs K) : SaysX P fa fn xs rs cs K := congrArg (fun z : AlP => z.1) c
end
end L3
end
section
set_option maxHeartbeats 4000000
set_option autoImplicit true
namespace L3
open PySem PySem.Spec PyProof.Rows L2 PySem.SxX
section
variable {P : Program} {w : World} {K : PySem.W.Frag} {mg : Str → Option Value} {base : Heap} {x qual : Str} {params : Arguments} {body : List Stmt} {scope : Scope} {dvs : List V} {kws : List (Str × V)} {f : Addr} {fd : FuncData} {Nn ps : List Str} {k n : Nat} {α ρ ε : Type} {A : α → List Pd} {C : α → List Cell} {Cr : α → ρ → List Cell}
end
section
variable {X : Cx} {W : Bool} {F : Fm} {Γ : Gm} {Δ : Δs} {γ β ε : Type} {T : Option γ} {k : β → Option γ} {e : Expr}
end
end L3
end
section
set_option maxHeartbeats 4000000
set_option autoImplicit true
namespace L3
open PySem PySem.Spec PyProof.Rows L2 PySem.SxX
section
variable {X : Cx} {pins : List (Addr × Obj)} {σ : SS} {H : Hp} {s : Shared}
end
section
variable {K : PySem.W.Frag} {mg : Str → Option Value} {Δ : Δs} {u : Value}
end
section
variable {X : Cx} {W : Bool} {F : Fm} {Γ : Gm} {Δ : Δs} {γ β : Type} {T : Option γ} {k : β → Option γ} {a : Expr} {Δ1 : β → Δs} {E1 : β → Pd} {pos : Pos}
end
section
variable {X : Cx} {F : Fm} {Γ : Gm} {Δ : Δs} {γ β : Type} {T : Option γ} {e : Expr}
end
end L3
end
section
set_option maxHeartbeats 4000000
set_option synthInstance.maxSize 2000
noncomputable section
namespace My
open PySem PySem.Spec PyProof.Rows L2 L3
end My
end
section
set_option maxHeartbeats 4000000
set_option synthInstance.maxSize 2000
namespace My
open PySem PySem.Spec PyProof.Rows L2 L3
def top (i : Nat) : Stmt := PySem.Challenge.pw_curbdesk_k16_history.main.body.getD i (.Pass ⟨0, 0, 0, 0⟩)
def rsL : List Str := ["EmptyRule", "RepeatedName", "NothingToUndo", "NothingToRedo", "UnknownStep"]
def csL : List Str := ["NothingToUndo", "UnknownName", "RepeatedName", "UnknownValue", "RepeatedValue", "UnknownKey", "RepeatedKey", "EmptyRule", "BadRow", "BadBounds", "BadNumber", "BadStep", "NoMark", "NotStruck", "BadOrder", "NotBare", "NoClash", "HoldsAnswer", "BadLine", "UnknownLine", "BadText", "NothingToRedo", "UnknownStep", "BadDeed", "DeskError", "ValueError"]
def cBody (s : Stmt) : List Stmt := match s with
  | .ClassDef _ _ _ b _ _ _ _ _ _ _ => b
  | _ => []
def mth (i j : Nat) : Stmt := (cBody (top i)).getD j (.Pass ⟨0, 0, 0, 0⟩)
end My
end
section
set_option maxHeartbeats 4000000
set_option synthInstance.maxSize 2000
namespace My
open PySem PySem.Spec PyProof.Rows L2 L3
section
variable {P : Program} {w : World} {K : PySem.W.Frag} {mg : Str → Option Value} {base : Heap}
end
end My
end
section
set_option maxHeartbeats 4000000
set_option synthInstance.maxSize 2000
namespace My
open PySem PySem.Spec PyProof.Rows L2 L3
section
variable {P : Program} {w : World} {K : PySem.W.Frag} {mg : Str → Option Value} {base : Heap}
end
end My
end
section
set_option maxHeartbeats 4000000
set_option synthInstance.maxSize 2000
namespace My
open PySem PySem.Spec PyProof.Rows L2 L3
section
variable {P : Program} {w : World} {K : PySem.W.Frag} {mg : Str → Option Value} {base : Heap}
end
end My
end
section
set_option maxHeartbeats 4000000
set_option synthInstance.maxSize 2000
namespace My
open PySem PySem.Spec PyProof.Rows L2 L3
section
variable {P : Program} {w : World} {K : PySem.W.Frag} {mg : Str → Option Value} {base : Heap}
end
end My
end
section
set_option maxHeartbeats 4000000
set_option synthInstance.maxSize 2000
namespace My
open PySem PySem.Spec PyProof.Rows L2 L3
section
variable {P : Program} {w : World} {K : PySem.W.Frag} {mg : Str → Option Value} {base : Heap}
end
end My
end
section
set_option maxHeartbeats 4000000
set_option synthInstance.maxSize 2000
namespace My
open PySem PySem.Spec PyProof.Rows L2 L3
section
variable {P : Program} {w : World} {K : PySem.W.Frag} {mg : Str → Option Value} {base : Heap}
end
end My
end
section
set_option maxHeartbeats 4000000
set_option synthInstance.maxSize 2000
namespace My
open PySem PySem.Spec PyProof.Rows L2 L3
section
variable {P : Program} {w : World} {K : PySem.W.Frag} {mg : Str → Option Value} {base : Heap}
end
end My
end
section
set_option maxHeartbeats 4000000
set_option synthInstance.maxSize 2000
namespace My
open PySem PySem.Spec PyProof.Rows L2 L3
section
variable {P : Program} {w : World} {K : PySem.W.Frag} {mg : Str → Option Value} {base : Heap}
end
end My
end
section
set_option maxHeartbeats 4000000
set_option synthInstance.maxSize 2000
namespace My
open PySem PySem.Spec PyProof.Rows L2 L3
section
variable {P : Program} {w : World} {K : PySem.W.Frag} {mg : Str → Option Value} {base : Heap}
end
end My
end
section
set_option maxHeartbeats 4000000
set_option synthInstance.maxSize 2000
namespace My
open PySem PySem.Spec PyProof.Rows L2 L3
section
variable {P : Program} {w : World} {K : PySem.W.Frag} {mg : Str → Option Value} {base : Heap}
end
end My
end
section
set_option maxHeartbeats 4000000
set_option synthInstance.maxSize 2000
namespace My
open PySem PySem.Spec PyProof.Rows L2 L3
section
variable {P : Program} {w : World} {K : PySem.W.Frag} {mg : Str → Option Value} {base : Heap}
end
end My
end
section
set_option maxHeartbeats 4000000
set_option synthInstance.maxSize 2000
namespace My
open PySem PySem.Spec PyProof.Rows L2 L3
section
variable {P : Program} {w : World} {K : PySem.W.Frag} {mg : Str → Option Value} {base : Heap}
end
end My
end
section
set_option maxHeartbeats 4000000
set_option synthInstance.maxSize 2000
namespace My
open PySem PySem.Spec PyProof.Rows L2 L3
section
variable {P : Program} {w : World} {K : PySem.W.Frag} {mg : Str → Option Value} {base : Heap}
end
end My
end
section
set_option maxHeartbeats 4000000
set_option synthInstance.maxSize 2000
namespace My
open PySem PySem.Spec PyProof.Rows L2 L3
section
variable {P : Program} {w : World} {K : PySem.W.Frag} {mg : Str → Option Value} {base : Heap}
end
end My
end
section
set_option maxHeartbeats 4000000
set_option synthInstance.maxSize 2000
namespace My
open PySem PySem.Spec PyProof.Rows L2 L3
section
variable {P : Program} {w : World} {K : PySem.W.Frag} {mg : Str → Option Value} {base : Heap}
end
end My
end
section
set_option maxHeartbeats 4000000
set_option synthInstance.maxSize 2000
namespace My
open PySem PySem.Spec PyProof.Rows L2 L3
section
variable {P : Program} {w : World} {K : PySem.W.Frag} {mg : Str → Option Value} {base : Heap}
end
end My
end
section
set_option maxHeartbeats 4000000
set_option synthInstance.maxSize 2000
namespace My
open PySem PySem.Spec PyProof.Rows L2 L3
section
variable {P : Program} {w : World} {K : PySem.W.Frag} {mg : Str → Option Value} {base : Heap}
end
end My
end
section
set_option maxHeartbeats 4000000
set_option synthInstance.maxSize 2000
namespace My
open PySem PySem.Spec PyProof.Rows L2 L3
section
variable {P : Program} {w : World} {K : PySem.W.Frag} {mg : Str → Option Value} {base : Heap}
end
end My
end
section
set_option maxHeartbeats 4000000
set_option synthInstance.maxSize 2000
namespace My
open PySem PySem.Spec PyProof.Rows L2 L3
section
variable {P : Program} {w : World} {K : PySem.W.Frag} {mg : Str → Option Value} {base : Heap}
end
end My
end
section
set_option maxHeartbeats 4000000
set_option synthInstance.maxSize 2000
namespace My
open PySem PySem.Spec PyProof.Rows L2 L3
section
variable {P : Program} {w : World} {K : PySem.W.Frag} {mg : Str → Option Value} {base : Heap}
end
end My
end
section
set_option maxHeartbeats 4000000
set_option synthInstance.maxSize 2000
namespace My
open PySem PySem.Spec PyProof.Rows L2 L3
section
variable {P : Program} {w : World} {K : PySem.W.Frag} {mg : Str → Option Value} {base : Heap}
end
end My
end
section
set_option maxHeartbeats 4000000
set_option synthInstance.maxSize 2000
namespace My
open PySem PySem.Spec PyProof.Rows L2 L3
section
variable {P : Program} {w : World} {K : PySem.W.Frag} {mg : Str → Option Value} {base : Heap}
end
end My
end
section
set_option maxHeartbeats 4000000
set_option synthInstance.maxSize 2000
namespace My
open PySem PySem.Spec PyProof.Rows L2 L3
section
variable {P : Program} {w : World} {K : PySem.W.Frag} {mg : Str → Option Value} {base : Heap}
end
end My
end
section
set_option maxHeartbeats 4000000
set_option synthInstance.maxSize 2000
namespace My
open PySem PySem.Spec PyProof.Rows L2 L3
section
variable {P : Program} {w : World} {K : PySem.W.Frag} {mg : Str → Option Value} {base : Heap}
end
end My
end
section
namespace My
open PySem PySem.Spec PyProof.Rows L2 L3
section
variable {α β γ S ρ δ : Type}
end
end My
end
section
namespace My
open PySem PySem.Spec PyProof.Rows L2 L3
section
variable {κ α : Type} [DecidableEq κ]
end
end My
end
section
namespace My
open PySem PySem.Spec PyProof.Rows L2 L3
end My
end
section
namespace My
open PySem PySem.Spec PyProof.Rows L2 L3
end My
end
section
namespace My
open PySem PySem.Spec PyProof.Rows L2 L3
end My
end
section
namespace My
open PySem PySem.Spec PyProof.Rows L2 L3
end My
end
section
namespace My
open PySem PySem.Spec PyProof.Rows L2 L3
end My
end
section
set_option maxHeartbeats 0
namespace My
open PySem PySem.Spec PyProof.Rows L2 L3
def d__wall : He.DefD := ⟨("_wall", none), "_wall", "_wall", defArgs (top 0), defBody (top 0), defScope (top 0), [], []⟩
def d_checked_names : He.DefD := ⟨("checked_names", none), "checked_names", "checked_names", defArgs (top 30), defBody (top 30), defScope (top 30), [], []⟩
def d__law_is_integer : He.DefD := ⟨("_law_is_integer", none), "_law_is_integer", "_law_is_integer", defArgs (top 34), defBody (top 34), defScope (top 34), [], []⟩
def d__law_stream : He.DefD := ⟨("_law_stream", none), "_law_stream", "_law_stream", defArgs (top 35), defBody (top 35), defScope (top 35), [], []⟩
def d__law_next : He.DefD := ⟨("_law_next", none), "_law_next", "_law_next", defArgs (top 36), defBody (top 36), defScope (top 36), [], []⟩
def d__law_state : He.DefD := ⟨("_law_state", none), "_law_state", "_law_state", defArgs (top 37), defBody (top 37), defScope (top 37), [], []⟩
def d__law_same_state : He.DefD := ⟨("_law_same_state", none), "_law_same_state", "_law_same_state", defArgs (top 38), defBody (top 38), defScope (top 38), [], []⟩
def d__law_looks : He.DefD := ⟨("_law_looks", none), "_law_looks", "_law_looks", defArgs (top 39), defBody (top 39), defScope (top 39), [], []⟩
def d__law_undo : He.DefD := ⟨("_law_undo", none), "_law_undo", "_law_undo", defArgs (top 40), defBody (top 40), defScope (top 40), [], []⟩
def d__law_redo : He.DefD := ⟨("_law_redo", none), "_law_redo", "_law_redo", defArgs (top 41), defBody (top 41), defScope (top 41), [], []⟩
def d__law_back : He.DefD := ⟨("_law_back", none), "_law_back", "_law_back", defArgs (top 42), defBody (top 42), defScope (top 42), [], []⟩
def d__law_push : He.DefD := ⟨("_law_push", none), "_law_push", "_law_push", defArgs (top 43), defBody (top 43), defScope (top 43), [], []⟩
def d__law_deed : He.DefD := ⟨("_law_deed", none), "_law_deed", "_law_deed", defArgs (top 44), defBody (top 44), defScope (top 44), [], []⟩
def d__law_down_and_up : He.DefD := ⟨("_law_down_and_up", none), "_law_down_and_up", "_law_down_and_up", defArgs (top 45), defBody (top 45), defScope (top 45), [], []⟩
def d__law_long_holds : He.DefD := ⟨("_law_long_holds", none), "_law_long_holds", "_law_long_holds", defArgs (top 46), defBody (top 46), defScope (top 46), [], []⟩
def d_law : He.DefD := ⟨("law", none), "law", "law", defArgs (top 47), defBody (top 47), defScope (top 47), [], []⟩
def d_History___init__ : He.DefD := ⟨("History", some "__init__"), "__init__", "History.__init__", defArgs (mth 28 0), defBody (mth 28 0), defScope (mth 28 0), [], []⟩
def d_Unlike___init__ : He.DefD := ⟨("Unlike", some "__init__"), "__init__", "Unlike.__init__", defArgs (mth 32 0), defBody (mth 32 0), defScope (mth 32 0), [], []⟩
def d_History_push : He.DefD := ⟨("History", some "push"), "push", "History.push", defArgs (mth 28 4), defBody (mth 28 4), defScope (mth 28 4), [], []⟩
def d_History_undo : He.DefD := ⟨("History", some "undo"), "undo", "History.undo", defArgs (mth 28 5), defBody (mth 28 5), defScope (mth 28 5), [], []⟩
def d_History_redo : He.DefD := ⟨("History", some "redo"), "redo", "History.redo", defArgs (mth 28 6), defBody (mth 28 6), defScope (mth 28 6), [], []⟩
def d_History_back_to : He.DefD := ⟨("History", some "back_to"), "back_to", "History.back_to", defArgs (mth 28 7), defBody (mth 28 7), defScope (mth 28 7), [], []⟩
def ini (i : Nat) : Stmt := (cBody (top i)).getD 0 (.Pass ⟨0, 0, 0, 0⟩)
def x_EmptyRule : XD := ⟨"EmptyRule", "EmptyRule.__init__", defArgs (ini 9), defBody (ini 9), defScope (ini 9), []⟩
def x_RepeatedName : XD := ⟨"RepeatedName", "RepeatedName.__init__", defArgs (ini 4), defBody (ini 4), defScope (ini 4), ["name"]⟩
def x_NothingToUndo : XD := ⟨"NothingToUndo", "NothingToUndo.__init__", defArgs (ini 23), defBody (ini 23), defScope (ini 23), []⟩
def x_NothingToRedo : XD := ⟨"NothingToRedo", "NothingToRedo.__init__", defArgs (ini 24), defBody (ini 24), defScope (ini 24), []⟩
def x_UnknownStep : XD := ⟨"UnknownStep", "UnknownStep.__init__", defArgs (ini 25), defBody (ini 25), defScope (ini 25), ["number"]⟩
def xs : List XD := [x_EmptyRule, x_RepeatedName, x_NothingToUndo, x_NothingToRedo, x_UnknownStep]
def d_History_state : He.DefD := ⟨("History", some "state"), "state", "History.state", defArgs (mth 28 1), defBody (mth 28 1), defScope (mth 28 1), [], []⟩
def p_History_state : PrD := ⟨"History", "state", d_History_state⟩
def d_History_steps : He.DefD := ⟨("History", some "steps"), "steps", "History.steps", defArgs (mth 28 2), defBody (mth 28 2), defScope (mth 28 2), [], []⟩
def p_History_steps : PrD := ⟨"History", "steps", d_History_steps⟩
def d_History_undone : He.DefD := ⟨("History", some "undone"), "undone", "History.undone", defArgs (mth 28 3), defBody (mth 28 3), defScope (mth 28 3), [], []⟩
def p_History_undone : PrD := ⟨"History", "undone", d_History_undone⟩
def prs : List PrD := [p_History_state, p_History_steps, p_History_undone]
def qs : List Qf := [(.isF "Unlike"), (.kit (.inl "Unlike") (.inl "Unlike") true), (.kit (.inl "Unlike") (.inr "str") false), (.kit (.inr "int") (.inl "Unlike") false), (.kit (.inr "NoneType") (.inl "Unlike") false), (.kit (.inr "str") (.inl "Unlike") false)]
def fn : List He.DefD := [d__wall, d_checked_names, d__law_is_integer, d__law_stream, d__law_next, d__law_state, d__law_same_state, d__law_looks, d__law_undo, d__law_redo, d__law_back, d__law_push, d__law_deed, d__law_down_and_up, d__law_long_holds, d_law, d_History___init__, d_Unlike___init__, d_History_push, d_History_undo, d_History_redo, d_History_back_to]
def fa : List He.Fa := [.glo "_wall", .glo "checked_names", .glo "_law_is_integer", .glo "_law_stream", .glo "_law_next", .glo "_law_state", .glo "_law_same_state", .glo "_law_looks", .glo "_law_undo", .glo "_law_redo", .glo "_law_back", .glo "_law_push", .glo "_law_deed", .glo "_law_down_and_up", .glo "_law_long_holds", .glo "law", .glo "EmptyRule", .glo "RepeatedName", .glo "NothingToUndo", .glo "NothingToRedo", .glo "UnknownStep", .glo "UnknownName", .glo "UnknownValue", .glo "RepeatedValue", .glo "UnknownKey", .glo "RepeatedKey", .glo "BadRow", .glo "BadBounds", .glo "BadNumber", .glo "BadStep", .glo "NoMark", .glo "NotStruck", .glo "BadOrder", .glo "NotBare", .glo "NoClash", .glo "HoldsAnswer", .glo "BadLine", .glo "UnknownLine", .glo "BadText", .glo "BadDeed", .glo "DeskError", .glo "History", .glo "Unlike", .free "ValueError", .free "bool", .free "int", .free "isinstance", .free "len", .free "min", .free "property", .free "range", .free "set", .free "str", .free "super", .free "tuple", .cls "History", .mkr "History", .noat "History" "_done", .noat "History" "_undone", .cls "Unlike", .mkr "Unlike", .noat "Unlike" "names", .meth "History" "push", .meth "History" "undo", .meth "History" "redo", .meth "History" "back_to"]
def loose0 : List PySem.Str := ["_wall", "DeskError", "UnknownName", "RepeatedName", "UnknownValue", "RepeatedValue", "UnknownKey", "RepeatedKey", "EmptyRule", "BadRow", "BadBounds", "BadNumber", "BadStep", "NoMark", "NotStruck", "BadOrder", "NotBare", "NoClash", "HoldsAnswer", "BadLine", "UnknownLine", "BadText", "NothingToUndo", "NothingToRedo", "UnknownStep", "BadDeed", "History", "checked_names", "Unlike", "_law_is_integer"]
def loose1 : List PySem.Str := ["_law_stream", "_law_next", "_law_state", "_law_same_state", "_law_looks", "_law_undo", "_law_redo", "_law_back", "_law_push", "_law_deed", "_law_down_and_up", "_law_long_holds"]
def loose : List PySem.Str := loose0 ++ loose1
abbrev R : PySem.W.OpenRow := PySem.W.OpenLaw.row PySem.Challenge.rw_curbdesk_k16_history
abbrev hk : PySem.W.Hook := hookP 6 R.prog fa fn xs rsL csL prs qs
def ob (s : PySem.W.SharedT) : AlP := obsPG 6 R.prog fa fn xs rsL csL prs qs (HandSHeadRun.getT s)
theorem ob_eq (s : PySem.W.SharedT) : ob s = hk.obs s.abs := obsPG_eq (HandSHeadRun.getT_eq s)
theorem run (w : World) : HandSHeadRun.RunEq R (PySem.W.view R.prog [47]) hk ob 30000 loose w := by
  intro os
  kernel_rfl
end My
end
section
set_option maxHeartbeats 4000000
namespace L3
open PySem PySem.Spec PyProof.Rows L2
theorem Fzs.refl (H : Hp) : Fzs H H := fun _ _ _ h => h
theorem Gr.refl (H : Hp) : Gr H H := fun _ _ h => h
theorem Fzs.mut {H : Hp} {p : Addr} {o u : HO} (h : H p = some o) (m : ¬ Pst o) : Fzs H (upd H p u) := fun a x px e => by
  have : a ≠ p := fun z => by subst z; rw [h] at e; cases e; exact m px
  rw [upd_ne this]; exact e
def pBl (b : Bool) : Pd := ⟨fun _ v => v = .bl b, fun _ h => h⟩
def pNon : Pd := ⟨fun _ v => v = .non, fun _ h => h⟩
def pV (u : V) : Pd := ⟨fun _ v => v = u, fun _ h => h⟩
def pUnit (_ : Unit) : Pd := pNon
def pOp {α : Type} (E : α → Pd) : Option α → Pd
  | none => pNon
  | some x => E x
def pT2 {α β : Type} (E : α → Pd) (G : β → Pd) (x : α × β) : Pd where
  pr H v := ∃ a u w, v = .ref a ∧ H a = some (.tup [u, w]) ∧ (E x.1).pr H u ∧ (G x.2).pr H w
  mono := fun f ⟨a, u, w, e, h, p, q⟩ => ⟨a, u, w, e, f _ _ trivial h, (E _).mono f p, (G _).mono f q⟩
def pD {α : Type} (E : α → Pd) (xs : List (Str × α)) : Pd where
  pr H v := ∃ a o kvs, v = .ref a ∧ H a = some (.frz o (.dK kvs)) ∧ xs.length ≤ sizeLine ∧ Paired (fun (x : Str × α) (u : Key × V) => u.1 = .inr x.1 ∧ (E x.2).pr H u.2) xs kvs
  mono := fun f ⟨a, o, vs, e, h, z, p⟩ => ⟨a, o, vs, e, f _ _ trivial h, z, paired_mono (fun x _ q => ⟨q.1, (E x.2).mono f q.2⟩) p⟩
theorem upd_dom {H : Hp} (p : Addr) (u : HO) : ∀ a o, H a = some o → ∃ z, upd H p u a = some z := fun a o e => by
  by_cases h : a = p
  · exact ⟨u, by rw [h, upd_same]⟩
  · exact ⟨o, by rw [upd_ne h, e]⟩
theorem inv_lk {X : Cx} {pins : List (Addr × Obj)} {σ : SS} {s : Shared} {Φ : Hp → Prop} : ∀ {G : List Addr} {H : Hp}, Inv X pins σ H s → tLk G Φ H → ∃ H', Inv X pins σ H' s ∧ Φ H'
  | [], H, I, h => ⟨H, I, h⟩
  | _ :: _, _, I, ⟨u, h, m, k⟩ => by
    obtain ⟨o, I'⟩ := I.lock h m
    exact inv_lk I' (k o)
theorem lk_fzs {G : List Addr} {H H1 : Hp} (hm : ∀ a ∈ G, ∃ o, H a = some o ∧ Mut (some o)) (h1 : ∀ a, a ∉ G → H1 a = H a) : Fzs H H1 := fun a o p e => by
  rw [h1 a fun ha => ?_]
  · exact e
  · obtain ⟨u, eu, m⟩ := hm a ha
    rw [e] at eu
    cases eu
    exact Mut.npst m p
theorem one_cells {p : Addr} {G : List Addr} {H : Hp} {u : HO} (eg : G = [p]) (h : H p = some u) (m : Mut (some u)) : ∀ a ∈ G, ∃ o, H a = some o ∧ Mut (some o) := fun a ha => by
  rw [eg] at ha
  rw [List.mem_singleton.mp ha]
  exact ⟨_, h, m⟩
def oL {α : Type} (E : α → Pd) (xs : List α) : Od where
  pr G H v := ∃ p vs, G = [p] ∧ v = .ref p ∧ H p = some (.lst vs) ∧ xs.length ≤ sizeLine ∧ Paired (fun x u => (E x).pr H u) xs vs
  pd := pL E xs
  frame := fun ⟨p, vs, eg, ev, h, z, q⟩ k f => ⟨p, vs, eg, ev, k p (by rw [eg]; exact List.mem_singleton.mpr rfl) _ h, z, paired_mono (fun x _ => (E x).mono f) q⟩
  cells := fun ⟨p, vs, eg, ev, h, z, q⟩ => one_cells eg h trivial
  lockd := fun ⟨p, vs, eg, ev, h, z, q⟩ h1 h2 => by
    obtain ⟨o, ho⟩ := h2 p (by rw [eg]; exact List.mem_singleton.mpr rfl) _ h
    exact ⟨p, o, vs, ev, ho, z, paired_mono (fun x _ => (E x).mono (lk_fzs (one_cells eg h trivial) h1)) q⟩
def oD {α : Type} (E : α → Pd) (xs : List (Str × α)) : Od where
  pr G H v := ∃ p kvs, G = [p] ∧ v = .ref p ∧ H p = some (.dK kvs) ∧ xs.length ≤ sizeLine ∧ Paired (fun (x : Str × α) (u : Key × V) => u.1 = .inr x.1 ∧ (E x.2).pr H u.2) xs kvs
  pd := pD E xs
  frame := fun ⟨p, vs, eg, ev, h, z, q⟩ k f => ⟨p, vs, eg, ev, k p (by rw [eg]; exact List.mem_singleton.mpr rfl) _ h, z, paired_mono (fun x _ q => ⟨q.1, (E x.2).mono f q.2⟩) q⟩
  cells := fun ⟨p, vs, eg, ev, h, z, q⟩ => one_cells eg h trivial
  lockd := fun ⟨p, vs, eg, ev, h, z, q⟩ h1 h2 => by
    obtain ⟨o, ho⟩ := h2 p (by rw [eg]; exact List.mem_singleton.mpr rfl) _ h
    exact ⟨p, o, vs, ev, ho, z, paired_mono (fun x _ q => ⟨q.1, (E x.2).mono (lk_fzs (one_cells eg h trivial) h1) q.2⟩) q⟩
theorem cellsOf_app (A B : List Cel) : cellsOf (A ++ B) = cellsOf A ++ cellsOf B := by unfold cellsOf; rw [List.flatMap_append]
theorem HkO.gr {F : Fm} {Δ : List Cel} {H H' : Hp} (k : HkO F Δ H) (g : Gr H H') : HkO F Δ H' :=
  ⟨fun a o e m => g a o (k.base a o e m), fun c hc => c.d.frame (k.del c hc) (fun a _ o e => g a o e) g.fzs, k.nod, k.own, fun m hm a ha => (k.mem m hm a ha).imp fun o e => g a o e⟩
theorem Hk.gr {F : Fm} {Δ : Δs} {H H' : Hp} (k : Hk F Δ H) (g : Gr H H') : Hk F Δ H' := by
  obtain ⟨Δ0, e, k⟩ := k
  exact ⟨Δ0, e, k.gr g⟩
theorem Ok.gr {F : Fm} {Γ : Gm} {Δ : Δs} {σ : SS} {H H' : Hp} (k : Ok F Γ Δ σ H) (g : Gr H H') : Ok F Γ Δ σ H' := ⟨k.hk.gr g, k.nm.mono g.fzs⟩
theorem HkO.add {F : Fm} {Δ : List Cel} {H H' : Hp} (k : HkO F Δ H) (g : Gr H H') {G : List Addr} {v : V} {d : Od} (nd : G.Nodup) (new : ∀ a ∈ G, H a = none) (h : d.pr G H' v) : HkO F (⟨G, v, d, none⟩ :: Δ) H' :=
  (k.gr g).cons (c := ⟨G, v, d, none⟩) nd (fun a ha hb => by
    obtain ⟨o, e, _⟩ := k.isC hb
    rw [new a ha] at e
    cases e) h fun a ha => .inl (k.fresh0 (new a ha))
theorem Ok.add {W : Bool} {F : Fm} {Γ : Gm} {Δ : Δs} {σ : SS} {H H' : Hp} (k : Ok F Γ Δ σ H) (g : Gr H H') {G : List Addr} {v : V} {d : Od} (nd : G.Nodup) (new : ∀ a ∈ G, H a = none) (h : d.pr G H' v) : OkN W F Γ H v d Δ σ H' := by
  obtain ⟨⟨Δ0, e, hk⟩, n⟩ := k
  exact ⟨Δ0, G, e, hk.add g nd new h, fun _ => new, n.mono g.fzs⟩
end L3
end
section
set_option maxHeartbeats 4000000
set_option autoImplicit true
namespace L3
open PySem PySem.Spec PyProof.Rows L2
def grd {γ : Type} (c : Prop) [Decidable c] (x : Option γ) : Option γ := if c then x else none
theorem grd_some {γ : Type} {c : Prop} [Decidable c] {x : Option γ} {g : γ} (h : grd c x = some g) : c ∧ x = some g := by
  unfold grd at h
  by_cases q : c
  · rw [if_pos q] at h; exact ⟨q, h⟩
  · rw [if_neg q] at h; cases h
theorem bind_some {α γ : Type} {m : Option α} {k : α → Option γ} {g : γ} (h : m.bind k = some g) : ∃ a, m = some a ∧ k a = some g := by
  cases m with
  | none => cases h
  | some a => exact ⟨a, rfl, h⟩
theorem St.refl {W : Bool} (H : Hp) : St W H H := ⟨Fzs.refl H, fun _ => Gr.refl H, fun _ o h => ⟨o, h⟩⟩
theorem St.gr {H H' : Hp} (s : St false H H') : Gr H H' := s.kp rfl
theorem OkN.since {F : Fm} {Γ : Gm} {Δ : Δs} {σ : SS} {H0 H H' : Hp} {v : V} {d : Od} {W : Bool} (k : OkN W F Γ H v d Δ σ H') (s : St W H0 H) : OkN W F Γ H0 v d Δ σ H' := by
  obtain ⟨Δ0, G, e, k, nw, n⟩ := k
  exact ⟨Δ0, G, e, k, fun hw a ha => s.back (nw hw a ha), n⟩
def tE {β γ : Type} (W : Bool) (F : Fm) (Γ : Gm) (Δ : Δs) (T : Option γ) (k : β → Option γ) (E : β → Pd) (Δ' : β → Δs) : TE := fun σ H Q =>
  Ok F Γ Δ σ H ∧ ∃ g, T = some g ∧ ∀ b v H', k b = some g → St W H H' → Ok F Γ (Δ' b) σ H' → (E b).pr H' v → Q v H'
def tO {β γ : Type} (W : Bool) (F : Fm) (Γ : Gm) (Δ : Δs) (T : Option γ) (k : β → Option γ) (D : β → Od) (Δ' : β → Δs) : TE := fun σ H Q =>
  Ok F Γ Δ σ H ∧ ∃ g, T = some g ∧ ∀ b v H', k b = some g → St W H H' → OkN W F Γ H v (D b) (Δ' b) σ H' → Q v H'
def tAr {β γ : Type} (W : Bool) (F : Fm) (Γ : Gm) (Δ : Δs) (T : Option γ) (k : β → Option γ) (Es : β → List Pd) (Δ' : β → Δs) : TA := fun σ H Q =>
  Ok F Γ Δ σ H ∧ ∃ g, T = some g ∧ ∀ b vs H', k b = some g → St W H H' → Ok F Γ (Δ' b) σ H' → Paired (fun p v => Pd.pr p H' v) (Es b) vs → Q vs H'
def tTs {β γ : Type} (W : Bool) (F : Fm) (Γ : Gm) (Δ : Δs) (T : Option γ) (k : β → Option γ) (c : β → Bool) (Δ' : β → Δs) : TT := fun σ H Q =>
  Ok F Γ Δ σ H ∧ ∃ g, T = some g ∧ ∀ b H', k b = some g → St W H H' → Ok F Γ (Δ' b) σ H' → Q (c b) H'
def tS {γ : Type} (F : Fm) (Γ : Gm) (Δ : Δs) (N : Fn γ) (T : Option γ) : TS := fun D σ H => Ok F Γ Δ σ H ∧ ∃ g, T = some g ∧ N.fin H g D
section
variable {X : Cx}
theorem _root_.L2.PE.wk {e : Expr} {t t' : TE} (h : PE X e t) (w : ∀ σ H Q, t' σ H Q → t σ H Q) : PE X e t' := ⟨fun pins s σ H Q I q => h.run pins s σ H Q I (w σ H Q q)⟩
theorem _root_.L2.PA.wk {e : List Expr} {t t' : TA} (h : PA X e t) (w : ∀ σ H Q, t' σ H Q → t σ H Q) : PA X e t' := ⟨fun p pins s σ H Q I q => h.run p pins s σ H Q I (w σ H Q q)⟩
theorem _root_.L2.PT.wk {e : Expr} {t t' : TT} (h : PT X e t) (w : ∀ σ H Q, t' σ H Q → t σ H Q) : PT X e t' := ⟨fun pins s σ H Q I q => h.run pins s σ H Q I (w σ H Q q)⟩
theorem _root_.L2.PW.wk {e : Expr} {t t' : TT} (h : PW X e t) (w : ∀ σ H Q, t' σ H Q → t σ H Q) : PW X e t' := ⟨fun wh pins s σ H Q I q => h.run wh pins s σ H Q I (w σ H Q q)⟩
theorem _root_.L2.PSs.wk {e : List Stmt} {t t' : TS} (h : PSs X e t) (w : ∀ D σ H, t' D σ H → t D σ H) : PSs X e t' := ⟨fun pins s σ H D I q => h.run pins s σ H D I (w D σ H q)⟩
theorem _root_.L2.PS.wk {e : Stmt} {t t' : TS} (h : PS X e t) (w : ∀ D σ H, t' D σ H → t D σ H) : PS X e t' := ⟨fun pins s σ H D I q => h.run pins s σ H D I (w D σ H q)⟩
theorem pe_ex {β : Type} {e : Expr} {t : β → TE} (h : ∀ b, PE X e (t b)) : PE X e (fun σ H Q => ∃ b, t b σ H Q) := ⟨fun pins s σ H Q I ⟨b, q⟩ => (h b).run pins s σ H Q I q⟩
theorem pa_ex {β : Type} {e : List Expr} {t : β → TA} (h : ∀ b, PA X e (t b)) : PA X e (fun σ H Q => ∃ b, t b σ H Q) := ⟨fun p pins s σ H Q I ⟨b, q⟩ => (h b).run p pins s σ H Q I q⟩
theorem pt_ex {β : Type} {e : Expr} {t : β → TT} (h : ∀ b, PT X e (t b)) : PT X e (fun σ H Q => ∃ b, t b σ H Q) := ⟨fun pins s σ H Q I ⟨b, q⟩ => (h b).run pins s σ H Q I q⟩
theorem pw_ex {β : Type} {e : Expr} {t : β → TT} (h : ∀ b, PW X e (t b)) : PW X e (fun σ H Q => ∃ b, t b σ H Q) := ⟨fun wh pins s σ H Q I ⟨b, q⟩ => (h b).run wh pins s σ H Q I q⟩
theorem pss_ex {β : Type} {e : List Stmt} {t : β → TS} (h : ∀ b, PSs X e (t b)) : PSs X e (fun D σ H => ∃ b, t b D σ H) := ⟨fun pins s σ H D I ⟨b, q⟩ => (h b).run pins s σ H D I q⟩
variable {W : Bool} {F : Fm} {Γ : Gm} {Δ : Δs} {γ : Type}
theorem x_var (i : Nat) {x : Str} {pos : Pos} {p : Pd} {k : Unit → Option γ} (h : Γ[i]? = some (some p) := by rfl) (hN : X.N[i]? = some x := by rfl) (hv : Vis X.env.scope x := by first | exact Or.inl rfl | exact Or.inr (Or.inl rfl) | exact Or.inr (Or.inr rfl))
    (hd : (x == ("__debug__" : Str)) = false := by decide) (hcd : (x == ("__classdict__" : Str)) = false := by decide) : PE X (.Name x pos) (tE W F Γ Δ (k ()) k (fun _ => p) fun _ => Δ) :=
  (pe_var hN hv hd hcd).wk fun σ H Q ⟨ok, g, e, q⟩ => by
    obtain ⟨v, hs, hp⟩ := ok.gam i p h
    exact ⟨v, hs, q () v H e (St.refl H) ok hp⟩
theorem x_c {e : Expr} {v : V} {p : Pd} {k : Unit → Option γ} (he : PE X e (tC v)) (hp : ∀ H, p.pr H v) : PE X e (tE W F Γ Δ (k ()) k (fun _ => p) fun _ => Δ) :=
  he.wk fun σ H Q ⟨ok, g, e, q⟩ => q () v H e (St.refl H) ok (hp H)
theorem x_int {i : Int} {j pos} {k : Unit → Option γ} : PE X (.Constant (.int i) j pos) (tE W F Γ Δ (k ()) k (fun _ => pInt i) fun _ => Δ) := x_c pe_int fun _ => rfl
theorem x_bl {i : Bool} {j pos} {k : Unit → Option γ} : PE X (.Constant (.bool i) j pos) (tE W F Γ Δ (k ()) k (fun _ => pBl i) fun _ => Δ) := x_c pe_bl fun _ => rfl
theorem x_str {i : Str} {j pos} {k : Unit → Option γ} : PE X (.Constant (.str i) j pos) (tE W F Γ Δ (k ()) k (fun _ => pStr i) fun _ => Δ) := x_c pe_str fun _ => rfl
theorem x_non {j pos} {k : Unit → Option γ} : PE X (.Constant .none j pos) (tE W F Γ Δ (k ()) k (fun _ => pNon) fun _ => Δ) := x_c pe_non fun _ => rfl
def Bin2 (X : Cx) (e a b : Expr) (r : R2) : Prop := ∀ ta tb, PE X a ta → PE X b tb → PE X e (tOp r ta tb)
theorem b_op {op : Operator} {r : R2} {a b : Expr} {pos : Pos} (ho : OpR X (binaryOp op) r) : Bin2 X (.BinOp a op b pos) a b r := fun _ _ ha hb => pe_op ho ha hb
theorem b_cmp {op : CmpOp} {r : R2} {a b : Expr} {pos : Pos} (ho : OpR X (compareOp op) r) (hm : behindInMarks op b = false) : Bin2 X (.Compare a [op] [b] pos) a b r := fun _ _ ha hb => pe_cmpR ho ha hb hm
theorem b_ix {r : R2} {a b : Expr} {pos : Pos} (ho : IxR X r) (hs : PlainIx b) : Bin2 X (.Subscript a b pos) a b r := fun _ _ ha hb => pe_ix ho ha hb hs
section
variable {e a b : Expr} {r : R2} {β1 β2 : Type} {T : Option γ} {k1 : β1 → Option γ} {k2 : β1 → β2 → Option γ} {E1 : β1 → Pd} {E2 : β1 → β2 → Pd} {Δ1 : β1 → Δs} {Δ2 : β1 → β2 → Δs}
theorem x2_core {t' : TE} (h2 : Bin2 X e a b r) (ha : PE X a (tE W F Γ Δ T k1 E1 Δ1)) (hb : ∀ b1, PE X b (tE W F Γ (Δ1 b1) (k1 b1) (k2 b1) (E2 b1) (Δ2 b1)))
    (hw : ∀ σ H Q, t' σ H Q → Ok F Γ Δ σ H ∧ ∃ g, T = some g ∧ ∀ b1 b2 v w H2, k2 b1 b2 = some g → St W H H2 → Ok F Γ (Δ2 b1 b2) σ H2 → (E1 b1).pr H2 v → (E2 b1 b2).pr H2 w → r v w H2 Q) : PE X e t' :=
  (h2 _ _ ha (pe_ex hb)).wk fun σ H Q h => by
    obtain ⟨ok, g, e, q⟩ := hw σ H Q h
    exact ⟨ok, g, e, fun b1 v H1 kb f1 ok1 hv => ⟨b1, ok1, g, kb, fun b2 w H2 kb2 f2 ok2 hw => q b1 b2 v w H2 kb2 (f1.trans f2) ok2 ((E1 b1).mono f2.fz hv) hw⟩⟩
theorem x2t {E : β1 × β2 → Pd} {k : β1 × β2 → Option γ} (h2 : Bin2 X e a b r) (ha : PE X a (tE W F Γ Δ T k1 E1 Δ1)) (hb : ∀ b1, PE X b (tE W F Γ (Δ1 b1) (k1 b1) (fun b2 => k (b1, b2)) (E2 b1) (Δ2 b1)))
    (hv : ∀ b1 b2 σ v w H Q, Ok F Γ (Δ2 b1 b2) σ H → (E1 b1).pr H v → (E2 b1 b2).pr H w → (∀ u, (E (b1, b2)).pr H u → Q u H) → r v w H Q) : PE X e (tE W F Γ Δ T k E fun b => Δ2 b.1 b.2) :=
  x2_core h2 ha hb fun σ H Q ⟨ok, g, e, q⟩ => ⟨ok, g, e, fun b1 b2 v w H2 kb f ok2 hv1 hv2 => hv b1 b2 σ v w H2 Q ok2 hv1 hv2 fun u hu => q (b1, b2) u H2 kb f ok2 hu⟩
theorem x2g {E : β1 × β2 → Pd} {k : β1 × β2 → Option γ} {c : β1 → β2 → Prop} [∀ b1 b2, Decidable (c b1 b2)] (h2 : Bin2 X e a b r) (ha : PE X a (tE W F Γ Δ T k1 E1 Δ1)) (hb : ∀ b1, PE X b (tE W F Γ (Δ1 b1) (k1 b1) (fun b2 => grd (c b1 b2) (k (b1, b2))) (E2 b1) (Δ2 b1)))
    (hv : ∀ b1 b2 σ v w H Q, Ok F Γ (Δ2 b1 b2) σ H → c b1 b2 → (E1 b1).pr H v → (E2 b1 b2).pr H w → (∀ u, (E (b1, b2)).pr H u → Q u H) → r v w H Q) : PE X e (tE W F Γ Δ T k E fun b => Δ2 b.1 b.2) :=
  x2_core h2 ha hb fun σ H Q ⟨ok, g, e, q⟩ => ⟨ok, g, e, fun b1 b2 v w H2 kb f ok2 hv1 hv2 => hv b1 b2 σ v w H2 Q ok2 (grd_some kb).1 hv1 hv2 fun u hu => q (b1, b2) u H2 (grd_some kb).2 f ok2 hu⟩
theorem x2p {β3 : Type} {E : (β1 × β2) × β3 → Pd} {k : (β1 × β2) × β3 → Option γ} {m : β1 → β2 → Option β3} (h2 : Bin2 X e a b r) (ha : PE X a (tE W F Γ Δ T k1 E1 Δ1))
    (hb : ∀ b1, PE X b (tE W F Γ (Δ1 b1) (k1 b1) (fun b2 => (m b1 b2).bind fun b3 => k ((b1, b2), b3)) (E2 b1) (Δ2 b1)))
    (hv : ∀ b1 b2 b3 σ v w H Q, Ok F Γ (Δ2 b1 b2) σ H → m b1 b2 = some b3 → (E1 b1).pr H v → (E2 b1 b2).pr H w → (∀ u, (E ((b1, b2), b3)).pr H u → Q u H) → r v w H Q) : PE X e (tE W F Γ Δ T k E fun b => Δ2 b.1.1 b.1.2) :=
  x2_core h2 ha hb fun σ H Q ⟨ok, g, e, q⟩ => ⟨ok, g, e, fun b1 b2 v w H2 kb f ok2 hv1 hv2 => by
    obtain ⟨b3, e3, kb3⟩ := bind_some kb
    exact hv b1 b2 b3 σ v w H2 Q ok2 e3 hv1 hv2 fun u hu => q ((b1, b2), b3) u H2 kb3 f ok2 hu⟩
end
def Bin2T (X : Cx) (e a b : Expr) (r : R2) : Prop := ∀ ta tb, PE X a ta → PE X b tb → PT X e (tTest (tOp r ta tb))
theorem bt_cmp {op : CmpOp} {r : R2} {a b : Expr} {pos : Pos} (ho : OpR X (compareOp op) r) (hm : behindInMarks op b = false) : Bin2T X (.Compare a [op] [b] pos) a b r := fun _ _ ha hb => pt_cmpR ho ha hb hm
section
variable {e a b : Expr} {r : R2} {β1 β2 : Type} {T : Option γ} {k1 : β1 → Option γ} {k2 : β1 → β2 → Option γ} {E1 : β1 → Pd} {E2 : β1 → β2 → Pd} {Δ1 : β1 → Δs} {Δ2 : β1 → β2 → Δs}
theorem t2_core {t' : TT} (h2 : Bin2T X e a b r) (ha : PE X a (tE W F Γ Δ T k1 E1 Δ1)) (hb : ∀ b1, PE X b (tE W F Γ (Δ1 b1) (k1 b1) (k2 b1) (E2 b1) (Δ2 b1)))
    (hw : ∀ σ H Q, t' σ H Q → Ok F Γ Δ σ H ∧ ∃ g, T = some g ∧ ∀ b1 b2 v w H2, k2 b1 b2 = some g → St W H H2 → Ok F Γ (Δ2 b1 b2) σ H2 → (E1 b1).pr H2 v → (E2 b1 b2).pr H2 w → r v w H2 (fun x H' => ∃ k, x = .bl k ∧ Q k H')) : PT X e t' :=
  (h2 _ _ ha (pe_ex hb)).wk fun σ H Q h => by
    obtain ⟨ok, g, e, q⟩ := hw σ H Q h
    exact ⟨ok, g, e, fun b1 v H1 kb f1 ok1 hv => ⟨b1, ok1, g, kb, fun b2 w H2 kb2 f2 ok2 hw => q b1 b2 v w H2 kb2 (f1.trans f2) ok2 ((E1 b1).mono f2.fz hv) hw⟩⟩
theorem t2t {c : β1 × β2 → Bool} {k : β1 × β2 → Option γ} (h2 : Bin2T X e a b r) (ha : PE X a (tE W F Γ Δ T k1 E1 Δ1)) (hb : ∀ b1, PE X b (tE W F Γ (Δ1 b1) (k1 b1) (fun b2 => k (b1, b2)) (E2 b1) (Δ2 b1)))
    (hv : ∀ b1 b2 σ v w H Q, Ok F Γ (Δ2 b1 b2) σ H → (E1 b1).pr H v → (E2 b1 b2).pr H w → (∀ u, (pBl (c (b1, b2))).pr H u → Q u H) → r v w H Q) : PT X e (tTs W F Γ Δ T k c fun b => Δ2 b.1 b.2) :=
  t2_core h2 ha hb fun σ H Q ⟨ok, g, e, q⟩ => ⟨ok, g, e, fun b1 b2 v w H2 kb f ok2 hv1 hv2 => hv b1 b2 σ v w H2 _ ok2 hv1 hv2 fun u hu => ⟨c (b1, b2), hu, q (b1, b2) H2 kb f ok2⟩⟩
end
section
variable {a b : Expr} {pos : Pos} {β1 β2 : Type} {T : Option γ} {k1 : β1 → Option γ} {k : β1 × β2 → Option γ} {Δ1 : β1 → Δs} {Δ2 : β1 → β2 → Δs} {i : β1 → Int} {j : β1 → β2 → Int}
theorem x_add (ha : PE X a (tE W F Γ Δ T k1 (fun b => pInt (i b)) Δ1)) (hb : ∀ b1, PE X b (tE W F Γ (Δ1 b1) (k1 b1) (fun b2 => k (b1, b2)) (fun b => pInt (j b1 b)) (Δ2 b1))) :
    PE X (.BinOp a .Add b pos) (tE W F Γ Δ T k (fun b => pInt (i b.1 + j b.1 b.2)) fun b => Δ2 b.1 b.2) :=
  x2t (b_op op_add) ha hb fun b1 b2 _ v w H Q _ hv hw q => ⟨i b1, j b1 b2, hv, hw, q _ rfl⟩
theorem x_sub (ha : PE X a (tE W F Γ Δ T k1 (fun b => pInt (i b)) Δ1)) (hb : ∀ b1, PE X b (tE W F Γ (Δ1 b1) (k1 b1) (fun b2 => k (b1, b2)) (fun b => pInt (j b1 b)) (Δ2 b1))) :
    PE X (.BinOp a .Sub b pos) (tE W F Γ Δ T k (fun b => pInt (i b.1 - j b.1 b.2)) fun b => Δ2 b.1 b.2) :=
  x2t (b_op op_sub) ha hb fun b1 b2 _ v w H Q _ hv hw q => ⟨i b1, j b1 b2, hv, hw, q _ rfl⟩
def sm (i : Int) : Bool := decide (-(2 ^ 64) < i) && decide (i < 2 ^ 64)
theorem sm_ok {i : Int} (h : sm i = true) : -(2 ^ 64) < i ∧ i < 2 ^ 64 := by
  obtain ⟨a, b⟩ := Bool.and_eq_true_iff.mp h
  exact ⟨of_decide_eq_true a, of_decide_eq_true b⟩
theorem x_mul (ha : PE X a (tE W F Γ Δ T k1 (fun b => pInt (i b)) Δ1)) (hb : ∀ b1, PE X b (tE W F Γ (Δ1 b1) (k1 b1) (fun b2 => grd ((sm (i b1) || sm (j b1 b2)) = true) (k (b1, b2))) (fun b => pInt (j b1 b)) (Δ2 b1))) :
    PE X (.BinOp a .Mult b pos) (tE W F Γ Δ T k (fun b => pInt (i b.1 * j b.1 b.2)) fun b => Δ2 b.1 b.2) :=
  x2g (b_op op_mul) ha hb fun b1 b2 _ v w H Q _ c hv hw q => ⟨i b1, j b1 b2, hv, hw, by
    rcases Bool.or_eq_true_iff.mp c with h | h
    · exact .inl (sm_ok h)
    · exact .inr (sm_ok h), q _ rfl⟩
theorem x_mod (ha : PE X a (tE W F Γ Δ T k1 (fun b => pInt (i b)) Δ1)) (hb : ∀ b1, PE X b (tE W F Γ (Δ1 b1) (k1 b1) (fun b2 => grd (0 < j b1 b2) (k (b1, b2))) (fun b => pInt (j b1 b)) (Δ2 b1))) :
    PE X (.BinOp a .Mod b pos) (tE W F Γ Δ T k (fun b => pInt (i b.1 % j b.1 b.2)) fun b => Δ2 b.1 b.2) :=
  x2g (b_op op_mod) ha hb fun b1 b2 _ v w H Q _ c hv hw q => ⟨i b1, j b1 b2, hv, hw, c, q _ rfl⟩
def dv (j : Int) : Bool := decide (0 < j) && decide (j < 1073741824)
theorem x_fdiv (ha : PE X a (tE W F Γ Δ T k1 (fun b => pInt (i b)) Δ1)) (hb : ∀ b1, PE X b (tE W F Γ (Δ1 b1) (k1 b1) (fun b2 => grd (dv (j b1 b2) = true) (k (b1, b2))) (fun b => pInt (j b1 b)) (Δ2 b1))) :
    PE X (.BinOp a .FloorDiv b pos) (tE W F Γ Δ T k (fun b => pInt (i b.1 / j b.1 b.2)) fun b => Δ2 b.1 b.2) :=
  x2g (b_op op_fdiv) ha hb fun b1 b2 _ v w H Q _ c hv hw q => ⟨i b1, j b1 b2, hv, hw, by
    obtain ⟨h1, h2⟩ := Bool.and_eq_true_iff.mp c
    exact ⟨of_decide_eq_true h1, of_decide_eq_true h2⟩, q _ rfl⟩
theorem x_pow (ha : PE X a (tE W F Γ Δ T k1 (fun b => pInt (i b)) Δ1)) (hb : ∀ b1, PE X b (tE W F Γ (Δ1 b1) (k1 b1) (fun b2 => k (b1, b2)) (fun b => pInt (j b1 b)) (Δ2 b1))) (hc : ∀ b1 b2, 0 ≤ j b1 b2 ∧ j b1 b2 ≤ 1000000 ∧ (i b1).natAbs < 2 ^ 64) :
    PE X (.BinOp a .Pow b pos) (tE W F Γ Δ T k (fun b => pInt (i b.1 ^ (j b.1 b.2).toNat)) fun b => Δ2 b.1 b.2) :=
  x2t (b_op op_pow) ha hb fun b1 b2 _ v w H Q _ hv hw q => ⟨i b1, j b1 b2, hv, hw, hc b1 b2, q _ rfl⟩
theorem x_ge (ha : PE X a (tE W F Γ Δ T k1 (fun b => pInt (i b)) Δ1)) (hb : ∀ b1, PE X b (tE W F Γ (Δ1 b1) (k1 b1) (fun b2 => k (b1, b2)) (fun b => pInt (j b1 b)) (Δ2 b1))) :
    PE X (.Compare a [.GtE] [b] pos) (tE W F Γ Δ T k (fun b => pBl (decide (j b.1 b.2 ≤ i b.1))) fun b => Δ2 b.1 b.2) :=
  x2t (b_cmp op_ge (nomark _)) ha hb fun b1 b2 _ v w H Q _ hv hw q => ⟨i b1, j b1 b2, hv, hw, q _ rfl⟩
theorem x_eqI (ha : PE X a (tE W F Γ Δ T k1 (fun b => pInt (i b)) Δ1)) (hb : ∀ b1, PE X b (tE W F Γ (Δ1 b1) (k1 b1) (fun b2 => k (b1, b2)) (fun b => pInt (j b1 b)) (Δ2 b1))) :
    PE X (.Compare a [.Eq] [b] pos) (tE W F Γ Δ T k (fun b => pBl (decide (i b.1 = j b.1 b.2))) fun b => Δ2 b.1 b.2) :=
  x2t (b_cmp op_eq (nomark _)) ha hb fun b1 b2 _ v w H Q _ hv hw q => by
    cases hv; cases hw
    refine ⟨rfl, q _ ?_⟩
    show V.bl _ = V.bl _
    congr 1
    by_cases z : i b1 = j b1 b2
    · rw [z]; simp
    · rw [decide_eq_false z, decide_eq_false fun y => z (V.int.inj y)]
theorem t_lt (ha : PE X a (tE W F Γ Δ T k1 (fun b => pInt (i b)) Δ1)) (hb : ∀ b1, PE X b (tE W F Γ (Δ1 b1) (k1 b1) (fun b2 => k (b1, b2)) (fun b => pInt (j b1 b)) (Δ2 b1))) :
    PT X (.Compare a [.Lt] [b] pos) (tTs W F Γ Δ T k (fun b => decide (i b.1 < j b.1 b.2)) fun b => Δ2 b.1 b.2) :=
  t2t (bt_cmp op_lt (nomark _)) ha hb fun b1 b2 _ v w H Q _ hv hw q => ⟨i b1, j b1 b2, hv, hw, q _ rfl⟩
theorem t_gt (ha : PE X a (tE W F Γ Δ T k1 (fun b => pInt (i b)) Δ1)) (hb : ∀ b1, PE X b (tE W F Γ (Δ1 b1) (k1 b1) (fun b2 => k (b1, b2)) (fun b => pInt (j b1 b)) (Δ2 b1))) :
    PT X (.Compare a [.Gt] [b] pos) (tTs W F Γ Δ T k (fun b => decide (j b.1 b.2 < i b.1)) fun b => Δ2 b.1 b.2) :=
  t2t (bt_cmp op_gt (nomark _)) ha hb fun b1 b2 _ v w H Q _ hv hw q => ⟨i b1, j b1 b2, hv, hw, q _ rfl⟩
theorem t_ge (ha : PE X a (tE W F Γ Δ T k1 (fun b => pInt (i b)) Δ1)) (hb : ∀ b1, PE X b (tE W F Γ (Δ1 b1) (k1 b1) (fun b2 => k (b1, b2)) (fun b => pInt (j b1 b)) (Δ2 b1))) :
    PT X (.Compare a [.GtE] [b] pos) (tTs W F Γ Δ T k (fun b => decide (j b.1 b.2 ≤ i b.1)) fun b => Δ2 b.1 b.2) :=
  t2t (bt_cmp op_ge (nomark _)) ha hb fun b1 b2 _ v w H Q _ hv hw q => ⟨i b1, j b1 b2, hv, hw, q _ rfl⟩
theorem t_eqI (ha : PE X a (tE W F Γ Δ T k1 (fun b => pInt (i b)) Δ1)) (hb : ∀ b1, PE X b (tE W F Γ (Δ1 b1) (k1 b1) (fun b2 => k (b1, b2)) (fun b => pInt (j b1 b)) (Δ2 b1))) :
    PT X (.Compare a [.Eq] [b] pos) (tTs W F Γ Δ T k (fun b => decide (i b.1 = j b.1 b.2)) fun b => Δ2 b.1 b.2) :=
  t2t (bt_cmp op_eq (nomark _)) ha hb fun b1 b2 _ v w H Q _ hv hw q => by
    cases hv; cases hw
    refine ⟨rfl, q _ ?_⟩
    show V.bl _ = V.bl _
    congr 1
    by_cases z : i b1 = j b1 b2
    · rw [z]; simp
    · rw [decide_eq_false z, decide_eq_false fun y => z (V.int.inj y)]
theorem t_neI (ha : PE X a (tE W F Γ Δ T k1 (fun b => pInt (i b)) Δ1)) (hb : ∀ b1, PE X b (tE W F Γ (Δ1 b1) (k1 b1) (fun b2 => k (b1, b2)) (fun b => pInt (j b1 b)) (Δ2 b1))) :
    PT X (.Compare a [.NotEq] [b] pos) (tTs W F Γ Δ T k (fun b => !decide (i b.1 = j b.1 b.2)) fun b => Δ2 b.1 b.2) :=
  t2t (bt_cmp op_ne (nomark _)) ha hb fun b1 b2 _ v w H Q _ hv hw q => by
    cases hv; cases hw
    refine ⟨rfl, q _ ?_⟩
    show V.bl _ = V.bl _
    congr 1
    by_cases z : i b1 = j b1 b2
    · rw [z]; simp
    · rw [decide_eq_false z, decide_eq_false fun y => z (V.int.inj y)]
end
end
end L3
end
section
set_option maxHeartbeats 4000000
namespace L3
open PySem PySem.Spec PyProof.Rows L2
theorem flat_sub : ∀ {Δ' Δ : List Cel}, Δ'.Sublist Δ → (cellsOf Δ').Sublist (cellsOf Δ)
  | _, _, .slnil => List.Sublist.refl _
  | _, _, .cons a s => by
    rw [cellsOf_cons]
    exact (flat_sub s).trans (List.sublist_append_right _ _)
  | _, _, .cons₂ a s => by
    rw [cellsOf_cons, cellsOf_cons]
    exact (List.Sublist.refl _).append (flat_sub s)
theorem HkO.less {F : Fm} {Δ Δ' : List Cel} {H : Hp} (k : HkO F Δ H) (h : Δ'.Sublist Δ) : HkO F Δ' H :=
  ⟨k.base, fun c hc => k.del c (h.subset hc), k.nod.sublist (flat_sub h), fun c hc => k.own c (h.subset hc), k.mem⟩
section
variable {F : Fm} {Γ : Gm} {Δ : Δs} {σ : SS} {H : Hp} {j : Nat} {c : Cell}
theorem OkN.absorb {W : Bool} {H0 : Hp} {v : V} {d : Od} (k : OkN W F Γ H0 v d Δ σ H) (hj : Δ[j]? = some c) : ∃ G Gn, c.d.pr G H c.v ∧ d.pr Gn H v ∧ (G ++ Gn).Nodup ∧ ∀ H' d' G', (∀ a o, a ∉ G → a ∉ Gn → H a = some o → H' a = some o) → (∀ a, a ∈ G ∨ a ∈ Gn → ∃ o, H' a = some o) → G'.Nodup → (∀ a ∈ G', (a ∈ G ∨ a ∈ Gn) ∨ H a = none) → d'.pr G' H' c.v →
    Ok F Γ (Δ.set j { c with d := d' }) σ H' ∧ Fzs H H' ∧ ∀ a o, H a = some o → ∃ u, H' a = some u := by
  obtain ⟨Δ0, Gn, e, k, nw, n⟩ := k
  subst e
  obtain ⟨A, x, B, e0, el, ex⟩ := map_at hj
  subst e0
  subst ex
  have k1 : HkO F (x :: ⟨Gn, v, d, none⟩ :: (A ++ B)) H := k.perm ((mid_perm (x := x)).cons _ |>.trans (.swap _ _ _))
  have nd1 := k1.ndup
  have nd2 := (k1.less (.cons _ (List.Sublist.refl _))).ndup
  have nod : (x.G ++ Gn).Nodup := List.nodup_append.mpr ⟨nd1.1, nd2.1, fun a ha b hb e => by
    subst e
    exact nd1.2.2 a ha (by rw [cellsOf_cons]; exact List.mem_append_left _ hb)⟩
  refine ⟨x.G, Gn, k1.del x List.mem_cons_self, k1.del ⟨Gn, v, d, none⟩ (List.mem_cons_of_mem _ List.mem_cons_self), nod, fun H' d' G' kp dm nd sb new => ?_⟩
  have fz : Fzs H H' := fun a o p e => by
    have hn : ∀ y ∈ (x :: ⟨Gn, v, d, none⟩ :: (A ++ B)), a ∉ y.G := fun y hy ha => by
      obtain ⟨u, eu, nu⟩ := y.d.cellsN (k1.del y hy) a ha
      rw [e] at eu
      cases eu
      exact nu p
    exact kp a o (hn x List.mem_cons_self) (hn ⟨Gn, v, d, none⟩ (List.mem_cons_of_mem _ List.mem_cons_self)) e
  have dom : ∀ a o, H a = some o → ∃ u, H' a = some u := fun a o e => by
    by_cases h1 : a ∈ x.G
    · exact dm a (.inl h1)
    · by_cases h2 : a ∈ Gn
      · exact dm a (.inr h2)
      · exact ⟨o, kp a o h1 h2 e⟩
  have r : HkO F (A ++ B) H' := by
    refine ⟨fun a o e m => ?_, fun y hy => ?_, nd2.2.1, fun y hy => k1.own y (List.mem_cons_of_mem _ (List.mem_cons_of_mem _ hy)), fun m hm a ha => ?_⟩
    · have hno : ∀ y ∈ (x :: ⟨Gn, v, d, none⟩ :: (A ++ B)), a ∉ y.G := fun y hy ha => by
        rcases k1.own y hy a ha with z | ⟨i, w, _, hw, z⟩
        · rw [e] at z; cases z
        · exact m w (List.mem_of_getElem? hw) z
      exact kp a o (hno x List.mem_cons_self) (hno ⟨Gn, v, d, none⟩ (List.mem_cons_of_mem _ List.mem_cons_self)) (k1.base a o e m)
    · refine y.d.frame (k1.del y (List.mem_cons_of_mem _ (List.mem_cons_of_mem _ hy))) (fun a ha o q => kp a o (fun hc => ?_) (fun hc => ?_) q) fz
      · exact nd1.2.2 a hc (by rw [cellsOf_cons]; exact List.mem_append_right _ (mem_cellsOf hy ha))
      · exact nd2.2.2 a hc (mem_cellsOf hy ha)
    · obtain ⟨o, e⟩ := k1.mem m hm a ha
      exact dom a o e
  have fin : HkO F (⟨G', x.v, d', x.prm⟩ :: (A ++ B)) H' := r.cons (c := ⟨G', x.v, d', x.prm⟩) nd (fun a ha hb => by
      rcases sb a ha with (h | h) | h
      · exact nd1.2.2 a h (by rw [cellsOf_cons]; exact List.mem_append_right _ hb)
      · exact nd2.2.2 a h hb
      · obtain ⟨o, e, _⟩ := k1.isC (a := a) (by rw [cellsOf_cons, cellsOf_cons]; exact List.mem_append_right _ (List.mem_append_right _ hb))
        rw [h] at e; cases e) new fun a ha => by
      rcases sb a ha with (h | h) | h
      · exact k1.own x List.mem_cons_self a h
      · rcases k1.own ⟨Gn, v, d, none⟩ (List.mem_cons_of_mem _ List.mem_cons_self) a h with z | ⟨i, m, z, _⟩
        · exact .inl z
        · cases z
      · exact .inl (k1.fresh0 h)
  refine ⟨⟨⟨A ++ ⟨G', x.v, d', x.prm⟩ :: B, ?_, fin.perm mid_perm.symm⟩, n.mono fz⟩, fz, dom⟩
  rw [← el]
  exact map_set
end
theorem inv_lkX {X : Cx} {pins : List (Addr × Obj)} {σ : SS} {s : Shared} {Φ : Hp → Prop} {H : Hp} (I : Inv X pins σ H s) (h : tLkX Φ H) : ∃ H', Inv X pins σ H' s ∧ Φ H' := by
  obtain ⟨G, h⟩ := h
  exact inv_lk I h
theorem map_sub : ∀ {Δ0 : List Cel} {Δ' : Δs}, Δ'.Sublist (Δ0.map Cel.fg) → ∃ Δ1 : List Cel, Δ1.Sublist Δ0 ∧ Δ1.map Cel.fg = Δ'
  | [], _, h => ⟨[], .slnil, by
    have := List.sublist_nil.mp h
    rw [this]; rfl⟩
  | x :: Δ0, Δ', h => by
    rw [List.map_cons] at h
    cases h with
    | cons _ h =>
      obtain ⟨Δ1, s, e⟩ := map_sub h
      exact ⟨Δ1, .cons _ s, e⟩
    | cons_cons _ h =>
      obtain ⟨Δ1, s, e⟩ := map_sub h
      exact ⟨x :: Δ1, .cons₂ _ s, by rw [List.map_cons, e]⟩
theorem Hk.less {F : Fm} {Δ Δ' : Δs} {H : Hp} (k : Hk F Δ H) (h : Δ'.Sublist Δ) : Hk F Δ' H := by
  obtain ⟨Δ0, e, k⟩ := k
  subst e
  obtain ⟨Δ1, s, e⟩ := map_sub h
  exact ⟨Δ1, e, k.less s⟩
theorem Ok.less {F : Fm} {Γ : Gm} {Δ Δ' : Δs} {σ : SS} {H : Hp} (k : Ok F Γ Δ σ H) (h : Δ'.Sublist Δ) : Ok F Γ Δ' σ H := ⟨k.hk.less h, k.nm⟩
theorem OkN.less {W : Bool} {F : Fm} {Γ : Gm} {Δ Δ' : Δs} {σ : SS} {H0 H : Hp} {v : V} {d : Od} (k : OkN W F Γ H0 v d Δ σ H) (h : Δ'.Sublist Δ) : OkN W F Γ H0 v d Δ' σ H := by
  obtain ⟨Δ0, G, e, k, nw, n⟩ := k
  subst e
  obtain ⟨Δ1, s, e⟩ := map_sub h
  exact ⟨Δ1, G, e, k.less (s.cons₂ _), nw, n⟩
theorem SubG.get : ∀ {g' g : Gm} {i : Nat} {p : Pd}, SubG g' g → g'[i]? = some (some p) → g[i]? = some (some p)
  | [], [], _, _, _, e => by simp at e
  | none :: g', _ :: g, 0, p, h, e => by simp at e
  | none :: g', _ :: g, i + 1, p, h, e => SubG.get (g' := g') (g := g) (i := i) h (by simpa using e)
  | some a :: g', some b :: g, 0, p, h, e => by
    have q : a = p := by simpa using e
    rw [← q, h.1]
    rfl
  | some a :: g', some b :: g, i + 1, p, h, e => SubG.get (g' := g') (g := g) (i := i) h.2 (by simpa using e)
  | [], _ :: _, _, _, h, _ => h.elim
  | some _ :: _, [], _, _, h, _ => h.elim
  | none :: _, [], _, _, h, _ => h.elim
  | some _ :: _, none :: _, _, _, h, _ => h.elim
theorem Ok.wk {F : Fm} {Γ Γ' : Gm} {Δ Δ' : Δs} {σ : SS} {H : Hp} (k : Ok F Γ Δ σ H) (g : SubG Γ' Γ) (h : Δ'.Sublist Δ) : Ok F Γ' Δ' σ H :=
  ⟨k.hk.less h, ⟨k.len.trans g.len.symm, fun i p e => k.gam i p (g.get e)⟩⟩
end L3
end
section
set_option maxHeartbeats 4000000
namespace L3
open PySem PySem.Spec PyProof.Rows L2
section
variable {X : Cx} {W : Bool} {F : Fm} {Γ : Gm} {Δ : Δs} {γ : Type}
theorem x_frz {β : Type} {e : Expr} {T : Option γ} {k : β → Option γ} {D : β → Od} {Δ' : β → Δs} (he : PE X e (tO W F Γ Δ T k D Δ')) : PE X e (tE W F Γ Δ T k (fun b => (D b).pd) Δ') :=
  ⟨fun pins s σ H Q I ⟨ok, g, e, q⟩ => thn (he.run pins s σ H (fun v H' => ∃ b, k b = some g ∧ St W H H' ∧ OkN W F Γ H v (D b) (Δ' b) σ H') I ⟨ok, g, e, fun b v H' kb f ok' => ⟨b, kb, f, ok'⟩⟩) fun u s1 ⟨v, H1, I1, r1, b, kb, f, ok1⟩ => by
    obtain ⟨H2, I2, f2, ok2, p2⟩ := inv_lkX (Φ := fun H2 => St W H H2 ∧ Ok F Γ (Δ' b) σ H2 ∧ (D b).pd.pr H2 v) I1 (ok1.frz f fun H' f h p => ⟨f, h, p⟩)
    exact ⟨v, H2, I2, r1, q b v H2 kb f2 ok2 p2⟩⟩
def Un1 (X : Cx) (e a : Expr) (r : V → Hp → VK → Prop) : Prop := ∀ ta, PE X a ta → PE X e (tUn r ta)
theorem u_un {op : UnaryOp} {r : V → Hp → VK → Prop} {a : Expr} {pos : Pos} (ho : UnR X (unaryOp op) r) : Un1 X (.UnaryOp op a pos) a r := fun _ ha => pe_un ho ha
theorem u_callB {id : String} {r : List V → Hp → VK → Prop} {x : Str} {a : Expr} {p pos : Pos} (hc : CallR X (.builtin id) r) (hg : Gl X x) (hm : X.mg x = none) (hv : bootBuiltins x = some (.builtin id)) (hn : x ≠ "__name__" := by decide) (hdb : (x == ("__debug__" : Str)) = false := by decide)
    (hs : starEach [a] X.env = (false, eval a X.env) :: starEach [] X.env := by rfl) : Un1 X (.Call (.Name x p) [a] [] pos) a (fun v => r [v]) := fun ta ha => (pe_callB hc hg hm hv (pa_cons ha pa_nil hs) hn hdb hs).wk fun σ H Q h => h
theorem u_callTy {id : String} {r : List V → Hp → VK → Prop} {x : Str} {a : Expr} {p pos : Pos} (hc : CallR X (.type id) r) (hg : Gl X x) (hm : X.mg x = none) (hv : bootBuiltins x = some (.type id)) (hn : x ≠ "__name__" := by decide) (hdb : (x == ("__debug__" : Str)) = false := by decide)
    (hs : starEach [a] X.env = (false, eval a X.env) :: starEach [] X.env := by rfl) : Un1 X (.Call (.Name x p) [a] [] pos) a (fun v => r [v]) := fun ta ha => (pe_callTy hc hg hm hv (pa_cons ha pa_nil hs) hn hdb hs).wk fun σ H Q h => h
theorem b_callB {id : String} {r : List V → Hp → VK → Prop} {x : Str} {a b : Expr} {p pos : Pos} (hc : CallR X (.builtin id) r) (hg : Gl X x) (hm : X.mg x = none) (hv : bootBuiltins x = some (.builtin id)) (hn : x ≠ "__name__" := by decide) (hdb : (x == ("__debug__" : Str)) = false := by decide)
    (hs : starEach [a, b] X.env = (false, eval a X.env) :: starEach [b] X.env := by rfl) (hs2 : starEach [b] X.env = (false, eval b X.env) :: starEach [] X.env := by rfl) (hpl : (backTo pos (starEach [b] X.env)).any (·.1) = false := by rfl) : Bin2 X (.Call (.Name x p) [a, b] [] pos) a b (fun v w => r [v, w]) := fun ta tb ha hb => (pe_callB hc hg hm hv (pa_cons ha (pa_cons hb pa_nil hs2) hs) hn hdb hs hpl).wk fun σ H Q h => h
section
variable {e a : Expr} {r : V → Hp → VK → Prop} {β : Type} {T : Option γ} {E1 : β → Pd} {Δ1 : β → Δs}
theorem x1t {k : β → Option γ} {E : β → Pd} (h1 : Un1 X e a r) (ha : PE X a (tE W F Γ Δ T k E1 Δ1)) (hv : ∀ b σ v H Q, Ok F Γ (Δ1 b) σ H → (E1 b).pr H v → (∀ u, (E b).pr H u → Q u H) → r v H Q) : PE X e (tE W F Γ Δ T k E Δ1) :=
  (h1 _ ha).wk fun σ H Q ⟨ok, g, e, q⟩ => ⟨ok, g, e, fun b v H' kb f ok' hp => hv b σ v H' Q ok' hp fun u hu => q b u H' kb f ok' hu⟩
theorem x1g {k : β → Option γ} {E : β → Pd} {c : β → Prop} [∀ b, Decidable (c b)] (h1 : Un1 X e a r) (ha : PE X a (tE W F Γ Δ T (fun b => grd (c b) (k b)) E1 Δ1)) (hv : ∀ b σ v H Q, Ok F Γ (Δ1 b) σ H → c b → (E1 b).pr H v → (∀ u, (E b).pr H u → Q u H) → r v H Q) : PE X e (tE W F Γ Δ T k E Δ1) :=
  (h1 _ ha).wk fun σ H Q ⟨ok, g, e, q⟩ => ⟨ok, g, e, fun b v H' kb f ok' hp => hv b σ v H' Q ok' (grd_some kb).1 hp fun u hu => q b u H' (grd_some kb).2 f ok' hu⟩
theorem Ok.newL {σ : SS} {H : Hp} {p : Addr} {α : Type} {E : α → Pd} {xs : List α} {vs : List V} (ok : Ok F Γ Δ σ H) (hp : H p = none) (z : xs.length ≤ sizeLine) (q : Paired (fun x u => (E x).pr H u) xs vs) : OkN W F Γ H (.ref p) (oL E xs) Δ σ (upd H p (.lst vs)) ∧ Gr H (upd H p (.lst vs)) := by
  have g : Gr H (upd H p (.lst vs)) := Gr.new hp
  exact ⟨ok.add g (List.nodup_cons.mpr ⟨List.not_mem_nil, List.nodup_nil⟩) (fun a ha => by rw [List.mem_singleton.mp ha]; exact hp) ⟨p, vs, rfl, rfl, upd_same, z, paired_mono (fun x _ => (E x).mono g.fzs) q⟩, g⟩
end
theorem a_nil {k : Unit → Option γ} : PA X [] (tAr W F Γ Δ (k ()) k (fun _ => []) fun _ => Δ) := pa_nil.wk fun σ H Q ⟨ok, g, e, q⟩ => q () [] H e (St.refl H) ok .nil
theorem a_cons {a : Expr} {es : List Expr} {β1 β2 : Type} {T : Option γ} {k1 : β1 → Option γ} {k : β1 × β2 → Option γ} {E1 : β1 → Pd} {Es : β1 → β2 → List Pd} {Δ1 : β1 → Δs} {Δ2 : β1 → β2 → Δs}
    (ha : PE X a (tE W F Γ Δ T k1 E1 Δ1)) (hr : ∀ b1, PA X es (tAr W F Γ (Δ1 b1) (k1 b1) (fun b2 => k (b1, b2)) (Es b1) (Δ2 b1))) (hs : starEach (a :: es) X.env = (false, eval a X.env) :: starEach es X.env := by rfl) :
    PA X (a :: es) (tAr W F Γ Δ T k (fun b => E1 b.1 :: Es b.1 b.2) fun b => Δ2 b.1 b.2) :=
  (pa_cons ha (pa_ex hr) hs).wk fun σ H Q ⟨ok, g, e, q⟩ => ⟨ok, g, e, fun b1 v H1 kb f1 ok1 hv => ⟨b1, ok1, g, kb, fun b2 vs H2 kb2 f2 ok2 hvs => q (b1, b2) (v :: vs) H2 kb2 (f1.trans f2) ok2 (.cons ((E1 b1).mono f2.fz hv) hvs)⟩⟩
theorem paired_len {α β : Type} {P : α → β → Prop} {l₁ : List α} {l₂ : List β} (h : Paired P l₁ l₂) : l₁.length = l₂.length := Paired.length h
theorem paired_map {α : Type} {E : α → Pd} {H : Hp} : ∀ {xs : List α} {vs : List V}, Paired (fun p v => Pd.pr p H v) (xs.map E) vs → Paired (fun x v => (E x).pr H v) xs vs
  | [], _, h => by cases h; exact .nil
  | x :: xs, _, h => by
    cases h with
    | cons r t => exact .cons r (paired_map t)
theorem x_disp {es : List Expr} {pos : Pos} {β α : Type} {T : Option γ} {k : β → Option γ} {Es : β → List Pd} {Δ1 : β → Δs} (Ee : α → Pd) (xs : β → List α) (ha : PA X es (tAr W F Γ Δ T k Es Δ1)) (he : ∀ b, Es b = (xs b).map Ee) (hz : ∀ b, (xs b).length ≤ 1000) :
    PE X (.List es pos) (tO W F Γ Δ T k (fun b => oL Ee (xs b)) Δ1) :=
  (pe_lst ha).wk fun σ H Q ⟨ok, g, e, q⟩ => ⟨ok, g, e, fun b vs H' kb f ok' hp => by
    rw [he b] at hp
    have hp2 := paired_map hp
    have z : (xs b).length ≤ sizeLine := Nat.le_trans (hz b) (by decide)
    refine ⟨by rw [← paired_len hp2]; exact z, fun p np => ?_⟩
    obtain ⟨o2, f2⟩ := ok'.newL np z hp2
    exact q b _ _ kb (f.trans f2.st) (o2.since f)⟩
theorem x_nil {pos : Pos} {α : Type} {k : Unit → Option γ} (Ee : α → Pd) : PE X (.List [] pos) (tO W F Γ Δ (k ()) k (fun _ => oL Ee []) fun _ => Δ) := x_disp Ee (fun _ => []) a_nil (fun _ => rfl) fun _ => Nat.zero_le _
variable {γ : Type} {N : Fn γ} {rest : List Stmt}
theorem s_asg {i : Nat} {x : Str} {e : Expr} {pos pos' : Pos} {β : Type} {T : Option γ} {k : β → Option γ} {E : β → Pd} {Δ' : β → Δs} (nd : X.N.Nodup) (he : PE X e (tE true F Γ Δ T k E Δ'))
    (hr : ∀ b, PSs X rest (tS F (Γ.set i (some (E b))) (Δ' b) N (k b))) (hi : X.N[i]? = some x := by rfl) (hx : Loc X.env.scope x := by first | exact .inl rfl | exact .inr rfl)
    (hs : swapsWith e (some (.Name x pos')) pos.line X.env = pure false := by rfl) (hf : X.fn x = true ∨ X.env.scope.names.lookup x = some .local := by first | exact .inl rfl | exact .inr rfl | assumption) :
    PSs X (.Assign [.Name x pos'] e pos :: rest) (tS F Γ Δ N T) :=
  (pss_cons (ps_set nd hi hx he hs hf) (pss_ex hr)).wk fun D σ H ⟨ok, g, e, f⟩ => ⟨ok, g, e, fun b v H' kb fz ok' hv => ⟨b, ok'.set hv, g, kb, N.mono f fz.fz⟩⟩
theorem s_let {i : Nat} {x : Str} {e : Expr} {pos pos' : Pos} {β α : Type} {T : Option γ} {Δ' : β → Δs} {val : β → α} {k2 : β → α → Option γ} (E0 : α → Pd) (nd : X.N.Nodup) (he : PE X e (tE true F Γ Δ T (fun b => (some (val b)).bind (k2 b)) (fun b => E0 (val b)) Δ'))
    (hr : ∀ b a, PSs X rest (tS F (Γ.set i (some (E0 a))) (Δ' b) N (k2 b a))) (hi : X.N[i]? = some x := by rfl) (hx : Loc X.env.scope x := by first | exact .inl rfl | exact .inr rfl)
    (hs : swapsWith e (some (.Name x pos')) pos.line X.env = pure false := by rfl) (hf : X.fn x = true ∨ X.env.scope.names.lookup x = some .local := by first | exact .inl rfl | exact .inr rfl | assumption) :
    PSs X (.Assign [.Name x pos'] e pos :: rest) (tS F Γ Δ N T) :=
  s_asg nd he (fun b => hr b (val b)) hi hx hs hf
theorem s_letO {i : Nat} {x : Str} {e : Expr} {pos pos' : Pos} {β α : Type} {T : Option γ} {Δ' : β → Δs} {val : β → α} {k2 : β → α → Option γ} (D0 : α → Od) (nd : X.N.Nodup) (he : PE X e (tO true F Γ Δ T (fun b => (some (val b)).bind (k2 b)) (fun b => D0 (val b)) Δ'))
    (hr : ∀ b a v, PSs X rest (tS F (Γ.set i (some (pV v))) (⟨v, D0 a, none⟩ :: Δ' b) N (k2 b a))) (hi : X.N[i]? = some x := by rfl) (hx : Loc X.env.scope x := by first | exact .inl rfl | exact .inr rfl)
    (hs : swapsWith e (some (.Name x pos')) pos.line X.env = pure false := by rfl) (hf : X.fn x = true ∨ X.env.scope.names.lookup x = some .local := by first | exact .inl rfl | exact .inr rfl | assumption) :
    PSs X (.Assign [.Name x pos'] e pos :: rest) (tS F Γ Δ N T) :=
  (pss_cons (ps_set nd hi hx he hs hf) (pss_ex fun b => pss_ex fun v => hr b (val b) v)).wk fun D σ H ⟨ok, g, e, f⟩ => ⟨ok, g, e, fun b v H' kb fz ok' => ⟨b, v, ok'.ok.set rfl, g, kb, N.mono f fz.fz⟩⟩
theorem s_is {st : List Stmt} {T T' : Option γ} (hr : PSs X st (tS F Γ Δ N T')) (e : T = T') : PSs X st (tS F Γ Δ N T) := by rw [e]; exact hr
theorem Ok.frzS {σ : SS} {H : Hp} {i j : Nat} {c : Cell} (k : Ok F Γ Δ σ H) (hj : Δ[j]? = some c) (hi : Γ[i]? = some (some (pV c.v))) {Φ : Hp → Prop} (q : ∀ H', St true H H' → Ok F (Γ.set i (some c.d.pd)) (Δ.eraseIdx j) σ H' → Φ H') : tLkX Φ H :=
  k.frz hj fun H' f ok' p => q H' f (by
    obtain ⟨v, hs, hv⟩ := k.gam i _ hi
    have hv2 : v = c.v := hv
    subst hv2
    refine ⟨ok'.hk, by rw [List.length_set]; exact ok'.len, fun m p' e => ?_⟩
    by_cases h : m = i
    · subst h
      rw [List.getElem?_set_self (List.getElem?_eq_some_iff.mp hi).1] at e
      cases e
      exact ⟨_, hs, p⟩
    · rw [List.getElem?_set_ne (fun z => h z.symm)] at e
      exact ok'.gam m p' e)
theorem s_frz {st : List Stmt} {i : Nat} {T : Option γ} {c : Cell} (j : Nat) (hr : PSs X st (tS F (Γ.set i (some c.d.pd)) (Δ.eraseIdx j) N T)) (hj : Δ[j]? = some c := by rfl) (hi : Γ[i]? = some (some (pV c.v)) := by rfl) : PSs X st (tS F Γ Δ N T) :=
  ⟨fun pins s σ H D I ⟨ok, g, e, f⟩ => by
    obtain ⟨H2, I2, ok2⟩ := inv_lkX (Φ := fun H2 => Fzs H H2 ∧ Ok F (Γ.set i (some c.d.pd)) (Δ.eraseIdx j) σ H2) I (ok.frzS hj hi fun H' f h => ⟨f.fz, h⟩)
    exact hr.run pins s σ H2 D I2 ⟨ok2.2, g, e, N.mono f ok2.1⟩⟩
theorem s_expr {e : Expr} {pos : Pos} {β : Type} {T : Option γ} {k : β → Option γ} {E : β → Pd} {Δ' : β → Δs} (he : PE X e (tE true F Γ Δ T k E Δ')) (hr : ∀ b, PSs X rest (tS F Γ (Δ' b) N (k b))) (hs : swapsWith e none pos.line X.env = pure false := by rfl) :
    PSs X (.Expr e pos :: rest) (tS F Γ Δ N T) :=
  (pss_cons (ps_expr he hs) (pss_ex hr)).wk fun D σ H ⟨ok, g, e, f⟩ => ⟨ok, g, e, fun b v H' kb fz ok' _ => ⟨b, ok', g, kb, N.mono f fz.fz⟩⟩
abbrev Rt (ρ : Type) := ρ → VK → Prop
def fF {ρ : Type} (R : Rt ρ) : Fn ρ := ⟨fun _ r D => R r D.rt, fun h _ => h⟩
def RF {ρ : Type} (F : Fm) (P : ρ → Δs) (Rp : ρ → Pd) : Rt ρ := fun r rt => ∀ v H', Hk F (P r) H' → (Rp r).pr H' v → rt v H'
def RO {ρ : Type} (F : Fm) (P : ρ → Δs) (Ro : ρ → Od) : Rt ρ := fun r rt => ∀ v H', Hk F (⟨v, Ro r, none⟩ :: P r) H' → rt v H'
theorem s_ret {e : Expr} {pos : Pos} {β ρ : Type} {T : Option γ} {Δ' : β → Δs} {P : ρ → Δs} {Rp : ρ → Pd} {ι : ρ → γ} {rv : β → ρ} (hN : ∀ H r D, N.fin H (ι r) D → RF F P Rp r D.rt) (he : PE X e (tE true F Γ Δ T (fun b => some (ι (rv b))) (fun b => Rp (rv b)) Δ'))
    (hP : ∀ b, (P (rv b)).Sublist (Δ' b)) : PSs X [.Return (some e) pos] (tS F Γ Δ N T) :=
  (pss_one (ps_ret he)).wk fun D σ H ⟨ok, g, e, f⟩ => ⟨ok, g, e, fun b v H' kb fz ok' hv => by
    have eg : g = ι (rv b) := (Option.some.inj kb).symm
    rw [eg] at f
    exact hN _ _ D f v H' (ok'.hk.less (hP b)) hv⟩
theorem s_retO {e : Expr} {pos : Pos} {β ρ : Type} {T : Option γ} {Δ' : β → Δs} {P : ρ → Δs} {Ro : ρ → Od} {ι : ρ → γ} {rv : β → ρ} (hN : ∀ H r D, N.fin H (ι r) D → RO F P Ro r D.rt) (he : PE X e (tO true F Γ Δ T (fun b => some (ι (rv b))) (fun b => Ro (rv b)) Δ'))
    (hP : ∀ b, (P (rv b)).Sublist (Δ' b)) : PSs X [.Return (some e) pos] (tS F Γ Δ N T) :=
  (pss_one (ps_ret he)).wk fun D σ H ⟨ok, g, e, f⟩ => ⟨ok, g, e, fun b v H' kb fz ok' => by
    have eg : g = ι (rv b) := (Option.some.inj kb).symm
    rw [eg] at f
    exact hN _ _ D f v H' (ok'.ok.hk.less ((hP b).cons₂ _))⟩
end
end L3
end
section
set_option maxHeartbeats 4000000
set_option autoImplicit true
namespace L3
open PySem PySem.Spec PyProof.Rows L2
section
variable {X : Cx} {W : Bool} {F : Fm} {Γ : Gm} {Δ : Δs} {γ : Type}
theorem x_tot {β : Type} {e : Expr} {T : Option γ} {E : β → Pd} {Δ' : β → Δs} (b0 : β) (hβ : ∀ b, b = b0) (he : PE X e (tE W F Γ Δ T (fun _ : β => T) E Δ')) : PE X e (tE W F Γ Δ T (fun _ : Unit => T) (fun _ => E b0) fun _ => Δ' b0) :=
  he.wk fun σ H Q ⟨ok, g, e, q⟩ => ⟨ok, g, e, fun b v H' kb f ok' hv => by
    rw [hβ b] at ok' hv
    exact q () v H' kb f ok' hv⟩
theorem t_val {e : Expr} {β : Type} {T : Option γ} {k : β → Option γ} {c : β → Bool} {Δ' : β → Δs} (he : PE X e (tE W F Γ Δ T k (fun b => pBl (c b)) Δ')) (hw : ∀ whole, isTrue e X.env whole = (do let v ← whole; standAt e.pos; holding [v] (truthy v)) := by intro _; rfl) :
    PT X e (tTs W F Γ Δ T k c Δ') :=
  (pt_val he hw).wk fun σ H Q ⟨ok, g, e, q⟩ => ⟨ok, g, e, fun b v H' kb f ok' hv => ⟨c b, hv, q b H' kb f ok'⟩⟩
theorem t_not {e : Expr} {pos : Pos} {β : Type} {T : Option γ} {k : β → Option γ} {c : β → Bool} {Δ' : β → Δs} (he : PT X e (tTs W F Γ Δ T k c Δ')) : PT X (.UnaryOp .Not e pos) (tTs W F Γ Δ T k (fun b => !c b) Δ') :=
  (pt_not he).wk fun σ H Q ⟨ok, g, e, q⟩ => ⟨ok, g, e, fun b H' kb f ok' => q b H' kb f ok'⟩
theorem x_not {e : Expr} {pos : Pos} {β : Type} {T : Option γ} {k : β → Option γ} {c : β → Bool} {Δ' : β → Δs} (he : PE X e (tE W F Γ Δ T k (fun b => pBl (c b)) Δ')) : PE X (.UnaryOp .Not e pos) (tE W F Γ Δ T k (fun b => pBl (!c b)) Δ') :=
  (pe_not he).wk fun σ H Q ⟨ok, g, e, q⟩ => ⟨ok, g, e, fun b v H' kb f ok' hv => ⟨c b, hv, q b _ H' kb f ok' rfl⟩⟩
theorem t_tot {β : Type} {e : Expr} {T : Option γ} {c : β → Bool} {Δ' : β → Δs} (b0 : β) (hβ : ∀ b, b = b0) (he : PT X e (tTs W F Γ Δ T (fun _ : β => T) c Δ')) : PT X e (tTs W F Γ Δ T (fun _ : Unit => T) (fun _ => c b0) fun _ => Δ' b0) :=
  he.wk fun σ H Q ⟨ok, g, e, q⟩ => ⟨ok, g, e, fun b H' kb f ok' => by
    rw [hβ b] at ok' ⊢
    exact q () H' kb f ok'⟩
section
variable {a b : Expr} {rest : List Expr} {pos : Pos} {c1 c2 : Bool} {T : Option γ}
abbrev tTot (W : Bool) (F : Fm) (Γ : Gm) (Δ : Δs) {γ : Type} (T : Option γ) (c : Bool) : TT := tTs W F Γ Δ T (fun _ : Unit => T) (fun _ => c) fun _ => Δ
abbrev eTot (W : Bool) (F : Fm) (Γ : Gm) (Δ : Δs) {γ : Type} (T : Option γ) (p : Pd) : TE := tE W F Γ Δ T (fun _ : Unit => T) (fun _ => p) fun _ => Δ
theorem w_and1 (ha : PT X a (tTs W F Γ Δ T k c Δ')) : PW X (.BoolOp .And [a] pos) (tTs W F Γ Δ T k c Δ') := pw_and1 ha
theorem w_or1 (ha : PT X a (tTs W F Γ Δ T k c Δ')) : PW X (.BoolOp .Or [a] pos) (tTs W F Γ Δ T k c Δ') := pw_or1 ha
theorem w_or (ha : PT X a (tTot W F Γ Δ T c1)) (hb : PW X (.BoolOp .Or (b :: rest) pos) (tTot W F Γ Δ T c2)) : PW X (.BoolOp .Or (a :: b :: rest) pos) (tTot W F Γ Δ T (c1 || c2)) :=
  (pw_or ha hb).wk fun σ H Q ⟨ok, g, e, q⟩ => ⟨ok, g, e, fun _ H1 kb f ok1 => by
    cases c1 with
    | true => exact iteT (q () H1 kb f ok1)
    | false => exact iteF ⟨ok1, g, e, fun _ H2 kb2 f2 ok2 => q () H2 kb2 (f.trans f2) ok2⟩⟩
theorem v_one {op} {t : TE} (h : PE X a t) : PE X (.BoolOp op [a] pos) t := pe_one h
theorem v_and (ha : PE X a (eTot W F Γ Δ T (pBl c1))) (hb : PE X (.BoolOp .And (b :: rest) pos) (eTot W F Γ Δ T (pBl c2))) : PE X (.BoolOp .And (a :: b :: rest) pos) (eTot W F Γ Δ T (pBl (c1 && c2))) :=
  (pe_and ha hb).wk fun σ H Q ⟨ok, g, e, q⟩ => ⟨ok, g, e, fun _ v H1 kb f ok1 hv => ⟨c1, hv, by
    cases c1 with
    | true => exact iteT ⟨ok1, g, e, fun _ w H2 kb2 f2 ok2 hw => q () w H2 kb2 (f.trans f2) ok2 hw⟩
    | false => exact iteF (q () _ H1 kb f ok1 rfl)⟩⟩
end
section
variable {a b : Expr} {rest : List Expr} {pos : Pos} {β1 β2 S : Type} {T : Option γ} {c1 : β1 → Bool} {c2 : β1 → β2 → Bool} {Δ1 : β1 → Δs} {Δ2 : β1 → β2 → Δs} {T2 : β1 → Option (Bool × S)} {s1 : β1 → S} {s2 : β1 → β2 → S} {ΔS : β1 → S → Δs} {k : β1 × (Bool × S) → Option γ}
theorem w_andM (ha : PT X a (tTs W F Γ Δ T (fun b1 => (if c1 b1 = true then T2 b1 else some (false, s1 b1)).bind fun c => k (b1, c)) c1 Δ1)) (hb : ∀ b1, PW X (.BoolOp .And (b :: rest) pos) (tTs W F Γ (Δ1 b1) (T2 b1) (fun b2 => some (c2 b1 b2, s2 b1 b2)) (c2 b1) (Δ2 b1)))
    (h1 : ∀ b1, Δ1 b1 = ΔS b1 (s1 b1)) (h2 : ∀ b1 b2, Δ2 b1 b2 = ΔS b1 (s2 b1 b2)) : PW X (.BoolOp .And (a :: b :: rest) pos) (tTs W F Γ Δ T k (fun b => b.2.1) fun b => ΔS b.1 b.2.2) :=
  (pw_and ha (pw_ex hb)).wk fun σ H Q ⟨ok, g, e, q⟩ => ⟨ok, g, e, fun b1 H1 kb f ok1 => by
    cases h : c1 b1 with
    | true =>
      try dsimp only at kb
      rw [if_pos h] at kb
      obtain ⟨cs, ec, kc⟩ := bind_some kb
      refine iteT ⟨b1, ok1, cs, ec, fun b2 H2 kb2 f2 ok2 => ?_⟩
      have ecs : (c2 b1 b2, s2 b1 b2) = cs := Option.some.inj kb2
      rw [← ecs] at kc
      rw [h2] at ok2
      exact q (b1, (c2 b1 b2, s2 b1 b2)) H2 kc (f.trans f2) ok2
    | false =>
      try dsimp only at kb
      rw [if_neg (by rw [h]; exact Bool.false_ne_true)] at kb
      rw [h1] at ok1
      exact iteF (q (b1, (false, s1 b1)) H1 kb f ok1)⟩
theorem w_orM (ha : PT X a (tTs W F Γ Δ T (fun b1 => (if c1 b1 = true then some (true, s1 b1) else T2 b1).bind fun c => k (b1, c)) c1 Δ1)) (hb : ∀ b1, PW X (.BoolOp .Or (b :: rest) pos) (tTs W F Γ (Δ1 b1) (T2 b1) (fun b2 => some (c2 b1 b2, s2 b1 b2)) (c2 b1) (Δ2 b1)))
    (h1 : ∀ b1, Δ1 b1 = ΔS b1 (s1 b1)) (h2 : ∀ b1 b2, Δ2 b1 b2 = ΔS b1 (s2 b1 b2)) : PW X (.BoolOp .Or (a :: b :: rest) pos) (tTs W F Γ Δ T k (fun b => b.2.1) fun b => ΔS b.1 b.2.2) :=
  (pw_or ha (pw_ex hb)).wk fun σ H Q ⟨ok, g, e, q⟩ => ⟨ok, g, e, fun b1 H1 kb f ok1 => by
    cases h : c1 b1 with
    | true =>
      try dsimp only at kb
      rw [if_pos h] at kb
      rw [h1] at ok1
      exact iteT (q (b1, (true, s1 b1)) H1 kb f ok1)
    | false =>
      try dsimp only at kb
      rw [if_neg (by rw [h]; exact Bool.false_ne_true)] at kb
      obtain ⟨cs, ec, kc⟩ := bind_some kb
      refine iteF ⟨b1, ok1, cs, ec, fun b2 H2 kb2 f2 ok2 => ?_⟩
      have ecs : (c2 b1 b2, s2 b1 b2) = cs := Option.some.inj kb2
      rw [← ecs] at kc
      rw [h2] at ok2
      exact q (b1, (c2 b1 b2, s2 b1 b2)) H2 kc (f.trans f2) ok2⟩
theorem v_andM (ha : PE X a (tE W F Γ Δ T (fun b1 => (if c1 b1 = true then T2 b1 else some (false, s1 b1)).bind fun c => k (b1, c)) (fun b => pBl (c1 b)) Δ1)) (hb : ∀ b1, PE X (.BoolOp .And (b :: rest) pos) (tE W F Γ (Δ1 b1) (T2 b1) (fun b2 => some (c2 b1 b2, s2 b1 b2)) (fun b2 => pBl (c2 b1 b2)) (Δ2 b1)))
    (h1 : ∀ b1, Δ1 b1 = ΔS b1 (s1 b1)) (h2 : ∀ b1 b2, Δ2 b1 b2 = ΔS b1 (s2 b1 b2)) : PE X (.BoolOp .And (a :: b :: rest) pos) (tE W F Γ Δ T k (fun b => pBl b.2.1) fun b => ΔS b.1 b.2.2) :=
  (pe_and ha (pe_ex hb)).wk fun σ H Q ⟨ok, g, e, q⟩ => ⟨ok, g, e, fun b1 v H1 kb f ok1 hv => ⟨c1 b1, hv, by
    cases h : c1 b1 with
    | true =>
      try dsimp only at kb
      rw [if_pos h] at kb
      obtain ⟨cs, ec, kc⟩ := bind_some kb
      refine iteT ⟨b1, ok1, cs, ec, fun b2 w H2 kb2 f2 ok2 hw => ?_⟩
      have ecs : (c2 b1 b2, s2 b1 b2) = cs := Option.some.inj kb2
      rw [← ecs] at kc
      rw [h2] at ok2
      exact q (b1, (c2 b1 b2, s2 b1 b2)) w H2 kc (f.trans f2) ok2 hw
    | false =>
      try dsimp only at kb
      rw [if_neg (by rw [h]; exact Bool.false_ne_true)] at kb
      rw [h1] at ok1
      exact iteF (q (b1, (false, s1 b1)) _ H1 kb f ok1 rfl)⟩⟩
end
inductive Bo (S τ : Type) where
  | nx (s : S)
  | tm (t : τ)
inductive Tm (S ρ : Type) where
  | ct (s : S)
  | bk (s : S)
  | rt (r : ρ)
def fN {S : Type} (F : Fm) (C : S → Cxt) : Fn S := ⟨fun H s D => nxOk F (C s) H D.nx, fun h f => nxOk.mono h f⟩
def fB {S τ : Type} (F : Fm) (C : S → Cxt) (Tf : Fn τ) : Fn (Bo S τ) := ⟨fun H o D => match o with
  | .nx s => nxOk F (C s) H D.nx
  | .tm t => Tf.fin H t D, fun {H H' g D} h f => by
    cases g with
    | nx s => exact nxOk.mono h f
    | tm t => exact Tf.mono h f⟩
def fT {S ρ : Type} (F : Fm) (C : S → Cxt) (R : Rt ρ) : Fn (Tm S ρ) := ⟨fun H o D => match o with
  | .ct s => nxOk F (C s) H D.ct
  | .bk s => nxOk F (C s) H D.bk
  | .rt r => R r D.rt, fun {H H' g D} h f => by
    cases g with
    | ct s => exact nxOk.mono h f
    | bk s => exact nxOk.mono h f
    | rt r => exact h⟩
def Ins {γ : Type} (N : Fn γ) : Prop := ∀ H g D n, N.fin H g D → N.fin H g { D with nx := n }
theorem ins_F {ρ : Type} (R : Rt ρ) : Ins (fF R) := fun _ _ _ _ h => h
theorem ins_T {S ρ : Type} {F : Fm} {C : S → Cxt} {R : Rt ρ} : Ins (fT F C R) := fun H g D n h => by cases g <;> exact h
def inB {S τ : Type} (T : Option τ) : Option (Bo S τ) := T.bind fun t => some (.tm t)
def boK {S τ γ : Type} (k : S → Option γ) (ι : τ → γ) : Bo S τ → Option γ
  | .nx s => k s
  | .tm t => some (ι t)
variable {N : Fn γ} {rest : List Stmt}
theorem s_end {S : Type} {C : S → Cxt} {T : Option S} (s : S) (hT : T = some s) (g : SubG (C s).1 Γ) (h : (C s).2.Sublist Δ) : PSs X [] (tS F Γ Δ (fN F C) T) :=
  pss_nil.wk fun D σ H ⟨ok, g', e, f⟩ => by
    rw [hT] at e
    cases e
    exact f σ H (Fzs.refl H) (ok.wk g h)
theorem s_endB {S τ : Type} {C : S → Cxt} {Tf : Fn τ} (s : S) (g : SubG (C s).1 Γ) (h : (C s).2.Sublist Δ) : PSs X [] (tS F Γ Δ (fB F C Tf) (some (.nx s))) :=
  pss_nil.wk fun D σ H ⟨ok, g', e, f⟩ => by
    cases e
    exact f σ H (Fzs.refl H) (ok.wk g h)
section
variable {ce : Expr} {A B : List Stmt} {pos : Pos} {β : Type} {T : Option γ} {c : β → Bool} {Δ' : β → Δs}
theorem s_if0 {N1 N2 : Fn γ} {t : TS} {u : TS} {k : β → Option γ} (hc : PT X ce (tTs true F Γ Δ T k c Δ')) (ha : PSs X A t) (hb : PSs X B u) (hr : PSs X rest v) {t' : TS}
    (hw : ∀ D σ H, t' D σ H → Ok F Γ Δ σ H ∧ ∃ g, T = some g ∧ ∀ b H', k b = some g → St true H H' → Ok F Γ (Δ' b) σ H' → (c b = true → t { D with nx := v D } σ H') ∧ (c b = false → u { D with nx := v D } σ H')) : PSs X (.If ce A B pos :: rest) t' :=
  (pss_cons (ps_if hc ha hb) hr).wk fun D σ H h => by
    obtain ⟨ok, g, e, q⟩ := hw D σ H h
    refine ⟨ok, g, e, fun b H' kb f ok' => ?_⟩
    obtain ⟨q1, q2⟩ := q b H' kb f ok'
    cases hcb : c b with
    | true => exact iteT (q1 hcb)
    | false => exact iteF (q2 hcb)
theorem s_ifT {T1 T2 : β → Option γ} (hI : Ins N) (hc : PT X ce (tTs true F Γ Δ T (fun b => if c b = true then T1 b else T2 b) c Δ')) (ha : ∀ b, PSs X A (tS F Γ (Δ' b) N (T1 b))) (hr : ∀ b, PSs X rest (tS F Γ (Δ' b) N (T2 b))) : PSs X (.If ce A [] pos :: rest) (tS F Γ Δ N T) :=
  s_if0 (N1 := N) (N2 := N) hc (pss_ex ha) pss_nil (pss_ex hr) fun D σ H ⟨ok, g, e, f⟩ => ⟨ok, g, e, fun b H' kb fz ok' => ⟨fun h => by
    try dsimp only at kb
    rw [if_pos h] at kb
    exact ⟨b, ok', g, kb, hI _ _ _ _ (N.mono f fz.fz)⟩, fun h => by
    try dsimp only at kb
    rw [if_neg (by rw [h]; exact Bool.false_ne_true)] at kb
    exact ⟨b, ok', g, kb, N.mono f fz.fz⟩⟩⟩
theorem s_ifB {S τ : Type} {C : S → Cxt} {Tf : Fn τ} {T : Option (Bo S τ)} {T1 : β → Option τ} {T2 : β → Option (Bo S τ)} (hI : Ins Tf) (hc : PT X ce (tTs true F Γ Δ T (fun b => if c b = true then inB (T1 b) else T2 b) c Δ')) (ha : ∀ b, PSs X A (tS F Γ (Δ' b) Tf (T1 b))) (hr : ∀ b, PSs X rest (tS F Γ (Δ' b) (fB F C Tf) (T2 b))) : PSs X (.If ce A [] pos :: rest) (tS F Γ Δ (fB F C Tf) T) :=
  s_if0 (N1 := fB F C Tf) (N2 := fB F C Tf) hc (pss_ex ha) pss_nil (pss_ex hr) fun D σ H ⟨ok, g, e, f⟩ => ⟨ok, g, e, fun b H' kb fz ok' => ⟨fun h => by
    try dsimp only at kb
    rw [if_pos h] at kb
    obtain ⟨t, et, e2⟩ := bind_some kb
    cases e2
    exact ⟨b, ok', t, et, hI _ _ _ _ (Tf.mono f fz.fz)⟩, fun h => by
    try dsimp only at kb
    rw [if_neg (by rw [h]; exact Bool.false_ne_true)] at kb
    exact ⟨b, ok', g, kb, (fB F C Tf).mono f fz.fz⟩⟩⟩
theorem s_ifN {S : Type} {C : S → Cxt} {T1 T2 : β → Option S} {k2 : β → S → Option γ} (hc : PT X ce (tTs true F Γ Δ T (fun b => (if c b = true then T1 b else T2 b).bind (k2 b)) c Δ')) (ha : ∀ b, PSs X A (tS F Γ (Δ' b) (fN F C) (T1 b))) (hb : ∀ b, PSs X B (tS F Γ (Δ' b) (fN F C) (T2 b)))
    (hr : ∀ b s, PSs X rest (tS F (C s).1 (C s).2 N (k2 b s))) : PSs X (.If ce A B pos :: rest) (tS F Γ Δ N T) :=
  s_if0 (N1 := N) (N2 := N) hc (pss_ex ha) (pss_ex hb) (pss_ex fun b => pss_ex fun s => hr b s) fun D σ H ⟨ok, g, e, f⟩ => ⟨ok, g, e, fun b H' kb fz ok' => by
    obtain ⟨s, es, ks⟩ := bind_some kb
    refine ⟨fun h => ?_, fun h => ?_⟩
    · rw [if_pos h] at es
      exact ⟨b, ok', s, es, fun σ2 H2 f2 ok2 => ⟨b, s, ok2, g, ks, N.mono f (fz.fz.trans f2)⟩⟩
    · rw [if_neg (by rw [h]; exact Bool.false_ne_true)] at es
      exact ⟨b, ok', s, es, fun σ2 H2 f2 ok2 => ⟨b, s, ok2, g, ks, N.mono f (fz.fz.trans f2)⟩⟩⟩
theorem s_ifM {S τ : Type} {C : S → Cxt} {Tf : Fn τ} {ι : τ → γ} {T1 T2 : β → Option (Bo S τ)} {k2 : β → S → Option γ} (hI : Ins Tf) (hι : ∀ H t D, N.fin H (ι t) D → Tf.fin H t D) (hc : PT X ce (tTs true F Γ Δ T (fun b => (if c b = true then T1 b else T2 b).bind (boK (k2 b) ι)) c Δ'))
    (ha : ∀ b, PSs X A (tS F Γ (Δ' b) (fB F C Tf) (T1 b))) (hb : ∀ b, PSs X B (tS F Γ (Δ' b) (fB F C Tf) (T2 b))) (hr : ∀ b s, PSs X rest (tS F (C s).1 (C s).2 N (k2 b s))) : PSs X (.If ce A B pos :: rest) (tS F Γ Δ N T) :=
  s_if0 (N1 := N) (N2 := N) hc (pss_ex ha) (pss_ex hb) (pss_ex fun b => pss_ex fun s => hr b s) fun D σ H ⟨ok, g, e, f⟩ => ⟨ok, g, e, fun b H' kb fz ok' => by
    obtain ⟨o, es, ks⟩ := bind_some kb
    have fin : (fB F C Tf).fin H' o { D with nx := fun σ H => ∃ b s, tS F (C s).1 (C s).2 N (k2 b s) D σ H } := by
      cases o with
      | nx s => exact fun σ2 H2 f2 ok2 => ⟨b, s, ok2, g, ks, N.mono f (fz.fz.trans f2)⟩
      | tm t =>
        have eg : ι t = g := Option.some.inj ks
        subst eg
        exact hI _ _ _ _ (hι _ _ _ (N.mono f fz.fz))
    refine ⟨fun h => ?_, fun h => ?_⟩
    · rw [if_pos h] at es
      exact ⟨b, ok', o, es, fin⟩
    · rw [if_neg (by rw [h]; exact Bool.false_ne_true)] at es
      exact ⟨b, ok', o, es, fin⟩⟩
end
end
end L3
end
section
set_option maxHeartbeats 4000000
namespace L3
open PySem PySem.Spec PyProof.Rows L2
section
variable {X : Cx} {W : Bool} {F : Fm} {Γ : Gm} {Δ : Δs} {γ : Type}
def RdL {α : Type} (Δ : Δs) (p : Pd) (E : α → Pd) (xs : List α) : Prop := ∀ F H v, Hk F Δ H → p.pr H v → RL E xs H v
theorem rdF {α : Type} {E : α → Pd} {xs : List α} : RdL Δ (pL E xs) E xs := fun _ _ _ _ ⟨a, o, vs, e, h, z, p⟩ => ⟨a, vs, e, .inr ⟨o, h⟩, z, p⟩
theorem rdO {α : Type} {E : α → Pd} {xs : List α} {v : V} {prm : Option Nat} (j : Nat) (h : Δ[j]? = some ⟨v, oL E xs, prm⟩ := by rfl) : RdL Δ (pV v) E xs := fun F H w hk e => by
  have e : w = v := e
  subst e
  obtain ⟨G, p, vs, _, ev, hp, z, q⟩ := hk.at h
  exact ⟨p, vs, ev, .inl hp, z, q⟩
theorem paired_at {α β : Type} {P : α → β → Prop} : ∀ {xs : List α} {vs : List β} {i : Nat} {x : α}, Paired P xs vs → xs[i]? = some x → ∃ v, vs[i]? = some v ∧ P x v
  | _, _, _, _, .nil, e => by simp at e
  | _, _, 0, _, .cons r _, e => by simp at e; subst e; exact ⟨_, rfl, r⟩
  | _, _, i + 1, x, .cons _ t, e => by
    obtain ⟨v, h1, h2⟩ := paired_at (i := i) (x := x) t (by simpa using e)
    exact ⟨v, by simpa using h1, h2⟩
theorem paired_atI {α β : Type} {P : α → β → Prop} {xs : List α} {vs : List β} {i : Int} {x : α} (h : Paired P xs vs) (e : atI xs i = some x) : ∃ v, atI vs i = some v ∧ P x v := by
  unfold atI at e ⊢
  rw [← paired_len h]
  obtain ⟨j, ej, ex⟩ := bind_some e
  obtain ⟨v, hv, p⟩ := paired_at h ex
  exact ⟨v, by rw [ej]; exact hv, p⟩
theorem paired_app {α β : Type} {P : α → β → Prop} : ∀ {xs ys : List α} {vs ws : List β}, Paired P xs vs → Paired P ys ws → Paired P (xs ++ ys) (vs ++ ws)
  | _, _, _, _, .nil, s => s
  | _, _, _, _, .cons r t, s => .cons r (paired_app t s)
theorem paired_set {α β : Type} {P : α → β → Prop} {x : α} {v : β} (r : P x v) : ∀ {xs : List α} {vs : List β} (i : Nat), Paired P xs vs → Paired P (xs.set i x) (vs.set i v)
  | _, _, _, .nil => .nil
  | _, _, 0, .cons _ t => .cons r t
  | _, _, i + 1, .cons q t => .cons q (paired_set r i t)
theorem paired_ints {H : Hp} : ∀ {xs : List Int} {vs : List V}, Paired (fun x u => (pInt x).pr H u) xs vs → vs = xs.map V.int
  | _, _, .nil => rfl
  | _, _, .cons r t => by rw [List.map_cons, ← paired_ints t]; exact congrArg (· :: _) r
theorem ints_paired {H : Hp} : ∀ xs : List Int, Paired (fun x u => (pInt x).pr H u) xs (xs.map V.int)
  | [] => .nil
  | _ :: xs => .cons rfl (ints_paired xs)
section
variable {a b : Expr} {pos : Pos} {β1 β2 α : Type} {T : Option γ} {k1 : β1 → Option γ} {Δ1 : β1 → Δs} {Δ2 : β1 → β2 → Δs} {E1 : β1 → Pd} {Ee : α → Pd} {xs : β1 → β2 → List α} {j : β1 → β2 → Int}
theorem x_ixL {k : (β1 × β2) × α → Option γ} (ha : PE X a (tE W F Γ Δ T k1 E1 Δ1)) (hb : ∀ b1, PE X b (tE W F Γ (Δ1 b1) (k1 b1) (fun b2 => (atI (xs b1 b2) (j b1 b2)).bind fun x => k ((b1, b2), x)) (fun b => pInt (j b1 b)) (Δ2 b1)))
    (rd : ∀ b1 b2, RdL (Δ2 b1 b2) (E1 b1) Ee (xs b1 b2)) (hs : PlainIx b := by exact fun _ _ => rfl) : PE X (.Subscript a b pos) (tE W F Γ Δ T k (fun b => Ee b.2) fun b => Δ2 b.1.1 b.1.2) :=
  x2p (b_ix ix_list hs) ha hb fun b1 b2 x σ v w H Q ok e hv hw q => by
    obtain ⟨p, vs, ev, sq, _, pr⟩ := (rd b1 b2 F H v ok.hk hv).sq (K := X.K)
    obtain ⟨u, eu, pu⟩ := paired_atI pr e
    exact ⟨p, vs, j b1 b2, u, ev, hw, sq, eu, q u pu⟩
end
section
variable {a : Expr} {pos p : Pos} {β α : Type} {T : Option γ} {Δ1 : β → Δs} {E1 : β → Pd} {Ee : α → Pd} {xs : β → List α} {k : β → Option γ}
theorem x_lenL (hm : X.mg "len" = none) (ha : PE X a (tE W F Γ Δ T k E1 Δ1)) (rd : ∀ b, RdL (Δ1 b) (E1 b) Ee (xs b)) (hg : Gl X "len" := by rfl) (hs : starEach [a] X.env = (false, eval a X.env) :: starEach [] X.env := by rfl) : PE X (.Call (.Name "len" p) [a] [] pos) (tE W F Γ Δ T k (fun b => pInt ((xs b).length : Int)) Δ1) :=
  x1t (u_callB call_len_seq hg hm PySem.boot_len (by decide) (by decide) hs) ha fun b σ v H Q ok hv q => by
    obtain ⟨p, vs, ev, sq, _, pr⟩ := (rd b F H v ok.hk hv).sq (K := X.K)
    rw [ev]
    exact ⟨p, vs, rfl, .inl sq, by rw [← paired_len pr]; exact q _ rfl⟩
theorem x_intI {i : β → Int} (hm : X.mg "int" = none) (ha : PE X a (tE W F Γ Δ T k (fun b => pInt (i b)) Δ1)) (hg : Gl X "int" := by rfl) (hs : starEach [a] X.env = (false, eval a X.env) :: starEach [] X.env := by rfl) : PE X (.Call (.Name "int" p) [a] [] pos) (tE W F Γ Δ T k (fun b => pInt (i b)) Δ1) :=
  x1t (u_callTy call_int1 hg hm (by decide +kernel) (by decide) (by decide) hs) ha fun b σ v H Q ok hv q => .inl ⟨i b, by rw [show v = .int (i b) from hv], q _ rfl⟩
theorem x_intB {c : β → Bool} (hm : X.mg "int" = none) (ha : PE X a (tE W F Γ Δ T k (fun b => pBl (c b)) Δ1)) (hg : Gl X "int" := by rfl) (hs : starEach [a] X.env = (false, eval a X.env) :: starEach [] X.env := by rfl) : PE X (.Call (.Name "int" p) [a] [] pos) (tE W F Γ Δ T k (fun b => pInt (if c b then 1 else 0)) Δ1) :=
  x1t (u_callTy call_int1 hg hm (by decide +kernel) (by decide) (by decide) hs) ha fun b σ v H Q ok hv q => .inr ⟨c b, by rw [show v = .bl (c b) from hv], q _ rfl⟩
end
section
variable {N : Fn γ} {rest : List Stmt}
theorem s_setL {o i e : Expr} {pos pos' : Pos} {β0 β1 β2 α : Type} {T : Option γ} {k0 : β0 → Option γ} {k1 : β0 → β1 → Option γ} {k : (β0 × β1) × β2 → Option γ} {Δ0 : β0 → Δs} {Δ1 : β0 → β1 → Δs} {Δ2 : β0 → β1 → β2 → Δs} {Ee : α → Pd} {y : β0 → α} {n : β0 → β1 → β2 → Int} {xs : β0 → β1 → β2 → List α} {v : V} {prm : Option Nat} (j : Nat)
    (he : PE X e (tE true F Γ Δ T k0 (fun b => Ee (y b)) Δ0)) (ho : ∀ b0, PE X o (tE true F Γ (Δ0 b0) (k0 b0) (k1 b0) (fun _ => pV v) (Δ1 b0)))
    (hi : ∀ b0 b1, PE X i (tE true F Γ (Δ1 b0 b1) (k1 b0 b1) (fun b2 => (ixN (xs b0 b1 b2).length (n b0 b1 b2)).bind fun m => (fun (_ : Nat) => k ((b0, b1), b2)) m) (fun b2 => pInt (n b0 b1 b2)) (Δ2 b0 b1)))
    (hj : ∀ b0 b1 b2, (Δ2 b0 b1 b2)[j]? = some ⟨v, oL Ee (xs b0 b1 b2), prm⟩)
    (hr : ∀ b : (β0 × β1) × β2, PSs X rest (tS F Γ ((Δ2 b.1.1 b.1.2 b.2).set j ⟨v, oL Ee ((xs b.1.1 b.1.2 b.2).set ((ixN (xs b.1.1 b.1.2 b.2).length (n b.1.1 b.1.2 b.2)).getD 0) (y b.1.1)), prm⟩) N (k b)))
    (hs : swapsWithSole [.Subscript o i pos'] e pos.line X.env = pure false := by rfl) (hw : swappedStores [.Subscript o i pos'] e X.env = pure none := by rfl) (h1 : (assignEach [.Subscript o i pos'] X.env).map (·.2) = [assign (.Subscript o i pos') X.env] := by rfl)
    (ha : ∀ v, assign (.Subscript o i pos') X.env v = (do
      let ov ← holding [v] (eval o X.env)
      let iv ← holding [v, ov] (eval i X.env)
      standAt pos'
      holding [v, ov, iv] (setItem ov iv v)
      release [v, ov, iv] []) := by intro _; rfl) :
    PSs X (.Assign [.Subscript o i pos'] e pos :: rest) (tS F Γ Δ N T) :=
  (pss_cons (ps_asg he (pg_sub (pe_ex ho) (pe_ex fun b0 => pe_ex fun b1 => hi b0 b1) set_list ha) hs hw h1) (pss_ex hr)).wk fun D σ H ⟨ok, g, e, f⟩ => ⟨ok, g, e, fun b0 u H0 kb0 f0 ok0 hu => ⟨b0, ok0, g, kb0, fun b1 w H1 kb1 f1 ok1 hw => ⟨b0, b1, ok1, g, kb1, fun b2 z H2 kb2 f2 ok2 hz => by
    obtain ⟨m, em, km⟩ := bind_some kb2
    have hw : w = v := hw
    have hz : z = .int (n b0 b1 b2) := hz
    subst hw hz
    obtain ⟨G, ⟨p, vs, eG, ev, hp, zz, pr⟩, nd, turn⟩ := ok2.cell (hj b0 b1 b2)
    refine ⟨p, vs, n b0 b1 b2, m, ev, rfl, hp, by rw [← paired_len pr]; exact em, ((b0, b1), b2), ?_⟩
    have hu2 : (Ee (y b0)).pr H2 u := (Ee (y b0)).mono (f1.fz.trans f2.fz) hu
    have fzm : Fzs H2 (upd H2 p (.lst (vs.set m u))) := Fzs.mut hp fun z => z
    obtain ⟨ok3, f3⟩ := turn (upd H2 p (.lst (vs.set m u))) (oL Ee ((xs b0 b1 b2).set m (y b0))) (fun a o na e => by
      rw [upd_ne fun q => na (by
        show a ∈ G
        have eG : G = [p] := eG
        rw [eG, q]; exact List.mem_singleton.mpr rfl)]
      exact e) ⟨p, vs.set m u, eG, ev, upd_same, by rw [List.length_set]; exact zz, paired_set (P := fun x q => (Ee x).pr (upd H2 p (.lst (vs.set m u))) q) ((Ee _).mono fzm hu2) m (paired_mono (fun x _ => (Ee x).mono fzm) pr)⟩
    have em2 : (ixN (xs b0 b1 b2).length (n b0 b1 b2)).getD 0 = m := by rw [em]; rfl
    show tS F Γ _ N (k ((b0, b1), b2)) D σ _
    rw [em2]
    exact ⟨ok3, g, km, N.mono f (((f0.fz.trans f1.fz).trans f2.fz).trans f3.fz)⟩⟩⟩⟩
end
end
end L3
end
section
set_option maxHeartbeats 4000000
namespace L3
open PySem PySem.Spec PyProof.Rows L2
theorem start_gam {H : Hp} : ∀ {ps : List Pd} {vs : List V} {m : Nat}, Paired (fun p v => Pd.pr p H v) ps vs → ∀ (i : Nat) (p : Pd), (ps.map some ++ List.replicate m none)[i]? = some (some p) → ∃ v, (vs.map some ++ List.replicate m none)[i]? = some (some v) ∧ p.pr H v
  | [], _, m, .nil, i, p, e => by
    have e : (List.replicate m (none : Option Pd))[i]? = some (some p) := e
    rw [List.getElem?_replicate] at e
    split at e <;> cases e
  | _ :: _, _ :: _, m, .cons r t, 0, p, e => by
    have e : some (some _) = some (some p) := e
    cases e
    exact ⟨_, rfl, r⟩
  | _ :: _, _ :: _, m, .cons r t, i + 1, p, e => start_gam t i p e
theorem ok_start {ps : List Pd} {vs : List V} {N : List Str} {H : Hp} {Δ : List Cel} {n : Nat} (hn : vs.length = n) (h : Paired (fun p v => Pd.pr p H v) ps vs) (hd : ∀ c ∈ Δ, c.d.pr c.G H c.v) (nd : (cellsOf Δ).Nodup) (hp : ∀ (i : Nat) (c : Cel), Δ[i]? = some c → c.prm = some i) :
    Ok ⟨H, Δ.map Cel.G⟩ (ps.map some ++ List.replicate (N.length - n) none) (Δ.map Cel.fg) (L2.start N vs) H := by
  subst hn
  refine ⟨⟨Δ, rfl, fun _ _ e _ => e, hd, nd, fun c hc a ha => .inr ?_, fun m hm a ha => ?_⟩, ?_, fun i p e => start_gam h i p e⟩
  · obtain ⟨i, hi⟩ := List.getElem?_of_mem hc
    exact ⟨i, c.G, hp i c hi, by rw [List.getElem?_map, hi]; rfl, ha⟩
  · obtain ⟨c, hc, e⟩ := List.mem_map.mp hm
    subst e
    obtain ⟨o, e, _⟩ := c.d.cellsN (hd c hc) a ha
    exact ⟨o, e⟩
  · unfold L2.start
    rw [List.length_append, List.length_append, List.length_map, List.length_map, List.length_replicate, List.length_replicate, paired_len h]
section
variable {F : Fm} {Γ : Gm} {Δ : Δs} {σ : SS} {H H' : Hp} {W : Bool}
theorem call_f0 (ok : Ok F Γ Δ σ H) (hk : Hk ⟨H, []⟩ [] H') : Ok F Γ Δ σ H' ∧ St W H H' := by
  obtain ⟨_, _, hk⟩ := hk
  have g : Gr H H' := fun a o e => hk.base a o e fun _ h => nomatch h
  exact ⟨ok.gr g, g.st⟩
theorem call_o0 {v : V} {d : Od} (ok : Ok F Γ Δ σ H) (hk : Hk ⟨H, []⟩ [⟨v, d, none⟩] H') : OkN W F Γ H v d Δ σ H' ∧ St W H H' := by
  obtain ⟨Δ0, e, hk⟩ := hk
  match Δ0, e with
  | [⟨G, _, _, _⟩], e =>
    cases e
    have g : Gr H H' := fun a o e => hk.base a o e fun _ h => nomatch h
    have nw : ∀ a ∈ G, H a = none := fun a ha => by
      rcases hk.own _ (List.mem_singleton.mpr rfl) a ha with z | ⟨i, m, z, _⟩
      · exact z
      · cases z
    exact ⟨ok.add g hk.ndup.1 nw (hk.del _ (List.mem_singleton.mpr rfl)), g.st⟩
theorem lendO {Δ1 Δ2 : List Cel} (k : HkO F (Δ1 ++ Δ2) H) {Δ1' N : List Cel} (hk : HkO ⟨H, Δ1.map Cel.G⟩ (N ++ Δ1') H') (hl : Δ1'.length = Δ1.length) (hi : ∀ (i : Nat) (c : Cel), Δ1'[i]? = some c → c.prm = some i) (hN : ∀ c ∈ N, c.prm = none) {Δ1o : List Cel} (ho : Δ1o.length = Δ1.length) (hoe : ∀ (i : Nat) (c c' e : Cel), Δ1[i]? = some c → Δ1'[i]? = some c' → Δ1o[i]? = some e → e = ⟨c'.G, c'.v, c'.d, c.prm⟩) :
    HkO F (N ++ Δ1o ++ Δ2) H' ∧ St true H H' ∧ ∀ c ∈ N, ∀ a ∈ c.G, H a = none := by
  have hG : ∀ a, a ∈ cellsOf Δ1 ↔ ∃ m ∈ Δ1.map Cel.G, a ∈ m := fun a => by
    unfold cellsOf
    rw [List.mem_flatMap]
    constructor
    · rintro ⟨c, hc, ha⟩; exact ⟨c.G, List.mem_map.mpr ⟨c, hc, rfl⟩, ha⟩
    · rintro ⟨m, hm, ha⟩
      obtain ⟨c, hc, e⟩ := List.mem_map.mp hm
      subst e
      exact ⟨c, hc, ha⟩
  have kp : ∀ a o, a ∉ cellsOf Δ1 → H a = some o → H' a = some o := fun a o n e => hk.base a o e fun m hm ha => n ((hG a).mpr ⟨m, hm, ha⟩)
  have k1 : HkO F Δ1 H := k.less (List.sublist_append_left _ _)
  have k2 : HkO F Δ2 H := k.less (List.sublist_append_right _ _)
  have fz : Fzs H H' := fun a o p e => kp a o (fun ha => by
    obtain ⟨u, eu, nu⟩ := k1.isC ha
    rw [e] at eu; cases eu; exact nu p) e
  have dom : ∀ a o, H a = some o → ∃ u, H' a = some u := fun a o e => by
    by_cases ha : a ∈ cellsOf Δ1
    · obtain ⟨m, hm, ha⟩ := (hG a).mp ha
      exact hk.mem m hm a ha
    · exact ⟨o, kp a o ha e⟩
  have nd := k.nod
  rw [cellsOf_app] at nd
  obtain ⟨nd1, nd2, nd3⟩ := List.nodup_append.mp nd
  -- what a cell of the def's end owns
  have ownN : ∀ c ∈ N, ∀ a ∈ c.G, H a = none := fun c hc a ha => by
    rcases hk.own c (List.mem_append_left _ hc) a ha with z | ⟨i, m, z, _⟩
    · exact z
    · rw [hN c hc] at z; cases z
  have own1 : ∀ (i : Nat) (c' : Cel), Δ1'[i]? = some c' → ∀ a ∈ c'.G, H a = none ∨ ∃ c, Δ1[i]? = some c ∧ a ∈ c.G := fun i c' h a ha => by
    rcases hk.own c' (List.mem_append_right _ (List.mem_of_getElem? h)) a ha with z | ⟨q, m, z, hm, hin⟩
    · exact .inl z
    · rw [hi i c' h] at z
      cases z
      have hm : (Δ1.map Cel.G)[i]? = some m := hm
      rw [List.getElem?_map] at hm
      cases e : Δ1[i]? with
      | none => rw [e] at hm; cases hm
      | some c =>
        rw [e] at hm
        cases hm
        exact .inr ⟨c, rfl, hin⟩
  have cof : ∀ (i : Nat) (e : Cel), Δ1o[i]? = some e → ∃ c c', Δ1[i]? = some c ∧ Δ1'[i]? = some c' ∧ e = ⟨c'.G, c'.v, c'.d, c.prm⟩ := fun i e h => by
    have hl1 : i < Δ1o.length := by
      by_cases x : i < Δ1o.length
      · exact x
      · rw [List.getElem?_eq_none (by omega)] at h; cases h
    have e1 := List.getElem?_eq_getElem (l := Δ1) (i := i) (by omega)
    have e2 := List.getElem?_eq_getElem (l := Δ1') (i := i) (by omega)
    exact ⟨_, _, e1, e2, hoe i _ _ e e1 e2 h⟩
  have eqG : Δ1o.map Cel.G = Δ1'.map Cel.G := by
    apply List.ext_getElem?
    intro i
    rw [List.getElem?_map, List.getElem?_map]
    by_cases hl1 : i < Δ1o.length
    · obtain ⟨c, c', _, e2, e3⟩ := cof i _ (List.getElem?_eq_getElem hl1)
      rw [List.getElem?_eq_getElem hl1, e2, e3]
      rfl
    · rw [List.getElem?_eq_none (by omega), List.getElem?_eq_none (by omega)]
  have eqC : cellsOf Δ1o = cellsOf Δ1' := by
    unfold cellsOf
    rw [List.flatMap_def, List.flatMap_def, eqG]
  refine ⟨⟨fun a o e m => kp a o (fun ha => ?_) (k.base a o e m), fun c hc => ?_, ?_, fun c hc a ha => ?_, fun m hm a ha => ?_⟩, ⟨fz, (fun h => nomatch h), dom⟩, ownN⟩
  · obtain ⟨c, hc, ha⟩ := List.mem_flatMap.mp ha
    rcases k1.own c hc a ha with z | ⟨i, w, _, hw, z⟩
    · rw [e] at z; cases z
    · exact m w (List.mem_of_getElem? hw) z
  · rcases List.mem_append.mp hc with hc | hc
    · rcases List.mem_append.mp hc with hc | hc
      · exact hk.del c (List.mem_append_left _ hc)
      · obtain ⟨i, h⟩ := List.getElem?_of_mem hc
        obtain ⟨d, d', _, e2, e3⟩ := cof i c h
        subst e3
        exact hk.del d' (List.mem_append_right _ (List.mem_of_getElem? e2))
    · exact c.d.frame (k2.del c hc) (fun a ha o q => kp a o (fun h1 => nd3 a h1 a (mem_cellsOf hc ha) rfl) q) fz
  · rw [cellsOf_app, cellsOf_app, eqC, ← cellsOf_app]
    refine List.nodup_append.mpr ⟨hk.nod, nd2, fun a ha b hb e => ?_⟩
    subst e
    obtain ⟨o2, e2, _⟩ := k2.isC hb
    rw [cellsOf_app] at ha
    rcases List.mem_append.mp ha with ha | ha
    · obtain ⟨c, hc, ha⟩ := List.mem_flatMap.mp ha
      rw [ownN c hc a ha] at e2; cases e2
    · obtain ⟨c', hc, ha⟩ := List.mem_flatMap.mp ha
      obtain ⟨i, h⟩ := List.getElem?_of_mem hc
      rcases own1 i c' h a ha with z | ⟨c, e1, z⟩
      · rw [z] at e2; cases e2
      · exact nd3 a (mem_cellsOf (List.mem_of_getElem? e1) z) a hb rfl
  · rcases List.mem_append.mp hc with hc | hc
    · rcases List.mem_append.mp hc with hc | hc
      · exact .inl (k.fresh0 (ownN c hc a ha))
      · obtain ⟨i, h⟩ := List.getElem?_of_mem hc
        obtain ⟨d, d', e1, e2, e3⟩ := cof i c h
        subst e3
        rcases own1 i d' e2 a ha with z | ⟨c, e4, z⟩
        · exact .inl (k.fresh0 z)
        · rw [e1] at e4
          cases e4
          exact k1.own d (List.mem_of_getElem? e1) a z
    · exact k2.own c hc a ha
  · obtain ⟨o, e⟩ := k.mem m hm a ha
    exact dom a o e
theorem map_one {Δ1 : List Cel} {c : Cell} (e : Δ1.map Cel.fg = [c]) : ∃ G, Δ1 = [⟨G, c.v, c.d, c.prm⟩] := by
  cases Δ1 with
  | nil => cases e
  | cons y r =>
    cases r with
    | cons _ _ => cases e
    | nil => cases e; exact ⟨y.G, rfl⟩
theorem map_two {Δ1 : List Cel} {c d : Cell} (e : Δ1.map Cel.fg = [c, d]) : ∃ G G2, Δ1 = [⟨G, c.v, c.d, c.prm⟩, ⟨G2, d.v, d.d, d.prm⟩] := by
  cases Δ1 with
  | nil => cases e
  | cons y r =>
    cases r with
    | nil => cases e
    | cons z r =>
      cases r with
      | cons _ _ => cases e
      | nil => cases e; exact ⟨y.G, z.G, rfl⟩
theorem Ok.lend1 {j : Nat} {c : Cell} (ok : Ok F Γ Δ σ H) (hj : Δ[j]? = some c) : ∃ G, c.d.pr G H c.v ∧ G.Nodup ∧ (∀ H' d', Hk ⟨H, [G]⟩ [⟨c.v, d', some 0⟩] H' → Ok F Γ (Δ.set j { c with d := d' }) σ H' ∧ St true H H') ∧
    ∀ H' d' v2 d2, Hk ⟨H, [G]⟩ [⟨v2, d2, none⟩, ⟨c.v, d', some 0⟩] H' → OkN true F Γ H v2 d2 (Δ.set j { c with d := d' }) σ H' ∧ St true H H' := by
  obtain ⟨⟨Δ0, e, k⟩, n⟩ := ok
  subst e
  obtain ⟨A, x, B, e0, el, ex⟩ := map_at hj
  subst e0
  subst ex
  have k1 : HkO F ([x] ++ (A ++ B)) H := k.perm mid_perm
  have nd := (k.perm mid_perm).ndup.1
  refine ⟨x.G, k1.del x List.mem_cons_self, nd, fun H' d' hk => ?_, fun H' d' v2 d2 hk => ?_⟩
  · obtain ⟨Δ1, e1, hk⟩ := hk
    obtain ⟨yG, e2⟩ := map_one e1
    subst e2
    ·
      obtain ⟨r, st, _⟩ := lendO (Δ1 := [x]) (N := []) (Δ1' := [⟨yG, x.v, d', some 0⟩]) (Δ1o := [⟨yG, x.v, d', x.prm⟩]) k1 hk rfl (fun i c h => by
        match i, h with
        | 0, h => cases h; rfl
        | _ + 1, h => cases h) (fun _ h => nomatch h) rfl (fun i c c' e h1 h2 h3 => by
        match i, h1, h2, h3 with
        | 0, h1, h2, h3 => cases h1; cases h2; cases h3; rfl
        | _ + 1, h1, _, _ => cases h1)
      refine ⟨⟨⟨A ++ ⟨yG, x.v, d', x.prm⟩ :: B, ?_, HkO.perm (Δ := ⟨yG, x.v, d', x.prm⟩ :: (A ++ B)) r mid_perm.symm⟩, n.mono st.fz⟩, st⟩
      rw [← el]
      exact map_set
  · obtain ⟨Δ1, e1, hk⟩ := hk
    obtain ⟨zG, yG, e2⟩ := map_two e1
    subst e2
    ·
      obtain ⟨r, st, nw⟩ := lendO (Δ1 := [x]) (N := [⟨zG, v2, d2, none⟩]) (Δ1' := [⟨yG, x.v, d', some 0⟩]) (Δ1o := [⟨yG, x.v, d', x.prm⟩]) k1 hk rfl (fun i c h => by
        match i, h with
        | 0, h => cases h; rfl
        | _ + 1, h => cases h) (fun c h => by rw [List.mem_singleton.mp h]) rfl (fun i c c' e h1 h2 h3 => by
        match i, h1, h2, h3 with
        | 0, h1, h2, h3 => cases h1; cases h2; cases h3; rfl
        | _ + 1, h1, _, _ => cases h1)
      refine ⟨⟨A ++ ⟨yG, x.v, d', x.prm⟩ :: B, zG, ?_, HkO.perm (Δ := ⟨zG, v2, d2, none⟩ :: ⟨yG, x.v, d', x.prm⟩ :: (A ++ B)) r (List.Perm.cons _ mid_perm.symm), (fun h => nomatch h), n.mono st.fz⟩, st⟩
      rw [← el]
      exact map_set
end
end L3
end
section
set_option maxHeartbeats 4000000
namespace L3
open PySem PySem.Spec PyProof.Rows L2
def Sp_FFF_f {α1 α2 α3 ρ : Type} (E1 : α1 → Pd) (E2 : α2 → Pd) (E3 : α3 → Pd) (Mf : α1 → α2 → α3 → Option (ρ)) (Rp : ρ → Pd) : Sp := fun vs H Q _ => ∃ (v1 v2 v3 : V)  (a1 : α1) (a2 : α2) (a3 : α3), vs = [v1, v2, v3] ∧ (E1 a1).pr H v1 ∧ (E2 a2).pr H v2 ∧ (E3 a3).pr H v3 ∧ ∃ r, Mf a1 a2 a3 = some r ∧ RF ⟨H, []⟩ (fun _ => []) (Rp) r Q
theorem fn_FFF_f {P : Program} {w : World} {K : PySem.W.Frag} {mg : Str → Option Value} {base : Heap} {x qual : Str} {params : Arguments} {body : List Stmt} {scope : Scope} {dvs : List V} {kws : List (Str × V)} {f : Addr} {fd : FuncData} {N ps : List Str} {k : Nat} {α1 α2 α3 ρ : Type} {E1 : α1 → Pd} {E2 : α2 → Pd} {E3 : α3 → Pd} {Mf : α1 → α2 → α3 → Option (ρ)} {Rp : ρ → Pd}
    (FD : FunD K x qual params body scope dvs kws f fd) (S : FnScope N ps scope) (hl : 3 = ps.length)
    (hb : ∀ (cdv : Value) (A : Around) (outer : List Env) (s : Shared) (H : Hp) (E : XK) (hr : Room k (A.deeper (envOfC qual scope s.heap.objs.size f cdv)))  (a1 : α1) (a2 : α2) (a3 : α3), PSs (cxOf CX0 P w K mg base N qual scope f cdv A outer s H E).nox body
      (tS ⟨H, []⟩ (([E1 a1, E2 a2, E3 a3] : List Pd).map some ++ List.replicate (N.length - 3) none) [] (fF (RF ⟨H, []⟩ (fun _ => []) (Rp))) (Mf a1 a2 a3))) : FnOk P w K mg base CX0 (k + 1) f fd ps (Sp_FFF_f E1 E2 E3 Mf Rp) := by
  refine FD.ok S (fun vs H Q E h => ?_) (fun cdv A outer s H vs Q E hr h => ?_)
  · obtain ⟨v1, v2, v3, a1, a2, a3, rfl, _⟩ := h
    exact hl
  · obtain ⟨v1, v2, v3, a1, a2, a3, rfl, p1, p2, p3, r, hM, fin⟩ := h
    refine ⟨_, PSs.nox (hb cdv A outer s H E hr  a1 a2 a3), ok_start (Δ := []) rfl (.cons p1 (.cons p2 (.cons p3 (.nil)))) ?_ ?_ ?_, r, hM, fin⟩
    · exact fun _ h => nomatch h
    · exact List.nodup_nil
    · exact fun _ _ h => nomatch h
theorem x_FFF_f {X : Cx} {W : Bool} {F : Fm} {Γ : Gm} {Δ : Δs} {γ : Type} {x : Str} {p pos : Pos} {e1 e2 e3 : Expr} {f : Addr} {fd : FuncData} {ps : List Str} {kk : Nat} {α1 α2 α3 ρ β1 β2 β3 : Type} {E1 : α1 → Pd} {E2 : α2 → Pd} {E3 : α3 → Pd} {Mf : α1 → α2 → α3 → Option (ρ)} {Rp : ρ → Pd} {T : Option γ} {Δ1 : β1 → Δs} {x1 : β1 → α1} {k1 : β1 → Option γ} {Δ2 : β1 → β2 → Δs} {x2 : β1 → β2 → α2} {k2 : β1 → β2 → Option γ} {Δ3 : β1 → β2 → β3 → Δs} {x3 : β1 → β2 → β3 → α3} {k : (β1 × β2 × β3) × (ρ) → Option γ}
    (G : FnOk X.prog X.w X.K X.mg X.base CX0 kk f fd ps (Sp_FFF_f E1 E2 E3 Mf Rp)) (hr : Room kk X.A) (hm : X.mg x = some (.ref f)) (hk : PySem.W.keepIn X.K (.ref f) = true) (hb : Binds X.K fd ps []) (h1 : PE X e1 (tE W F Γ Δ T (k1) (fun b1 => E1 (x1 b1)) (Δ1))) (h2 : ∀ b1, PE X e2 (tE W F Γ (Δ1 b1) (k1 b1) (k2 b1) (fun b2 => E2 (x2 b1 b2)) (Δ2 b1))) (h3 : ∀ b1 b2, PE X e3 (tE W F Γ (Δ2 b1 b2) (k2 b1 b2) (fun b3 => (Mf (x1 b1) (x2 b1 b2) (x3 b1 b2 b3)).bind fun r => k ((b1, b2, b3), r)) (fun b3 => E3 (x3 b1 b2 b3)) (Δ3 b1 b2)))
     (hg : Gl X x := by rfl) (hdb : (x == ("__debug__" : Str)) = false := by decide) (st1 : starEach [e1, e2, e3] X.env = (false, eval e1 X.env) :: starEach [e2, e3] X.env := by rfl) (st2 : starEach [e2, e3] X.env = (false, eval e2 X.env) :: starEach [e3] X.env := by rfl) (st3 : starEach [e3] X.env = (false, eval e3 X.env) :: starEach [] X.env := by rfl) (hpl : (backTo pos (starEach [e2, e3] X.env)).any (·.1) = false := by rfl) :
    PE X (.Call (.Name x p) [e1, e2, e3] [] pos) (tE W F Γ Δ T k (fun b => Rp b.2) fun b => Δ3 b.1.1 b.1.2.1 b.1.2.2) :=
  (pe_call G hr hg hm hk hb .nil pass0 (pa_cons h1 (pa_cons (pe_ex fun b1 => h2 b1) (pa_cons (pe_ex fun b1 => pe_ex fun b2 => h3 b1 b2) pa_nil st3) st2) st1) hdb st1 hpl).wk fun σ H Q ⟨ok, g, e, q⟩ => ⟨ok, g, e, fun b1 v1 H1 kb1 f1 ok1 hv1 => ⟨b1, ok1, g, kb1, fun b2 v2 H2 kb2 f2 ok2 hv2 => ⟨b1, b2, ok2, g, kb2, fun b3 v3 H3 kb3 f3 ok3 hv3 => by
    obtain ⟨r, er, kr⟩ := bind_some kb3
    refine ⟨v1, v2, v3, x1 b1, x2 b1 b2, x3 b1 b2 b3, rfl, ((E1 _).mono (f2.fz.trans f3.fz) hv1), ((E2 _).mono f3.fz hv2), hv3, r, er, fun v H' hk hv => ?_⟩
    obtain ⟨ok', st⟩ := call_f0 (W := W) ok3 hk
    exact q ((b1, b2, b3), r) v H' kr (((f1.trans f2).trans f3).trans st) ok' hv⟩⟩⟩
def Sp_FF_f {α1 α2 ρ : Type} (E1 : α1 → Pd) (E2 : α2 → Pd) (Mf : α1 → α2 → Option (ρ)) (Rp : ρ → Pd) : Sp := fun vs H Q _ => ∃ (v1 v2 : V)  (a1 : α1) (a2 : α2), vs = [v1, v2] ∧ (E1 a1).pr H v1 ∧ (E2 a2).pr H v2 ∧ ∃ r, Mf a1 a2 = some r ∧ RF ⟨H, []⟩ (fun _ => []) (Rp) r Q
theorem fn_FF_f {P : Program} {w : World} {K : PySem.W.Frag} {mg : Str → Option Value} {base : Heap} {x qual : Str} {params : Arguments} {body : List Stmt} {scope : Scope} {dvs : List V} {kws : List (Str × V)} {f : Addr} {fd : FuncData} {N ps : List Str} {k : Nat} {α1 α2 ρ : Type} {E1 : α1 → Pd} {E2 : α2 → Pd} {Mf : α1 → α2 → Option (ρ)} {Rp : ρ → Pd}
    (FD : FunD K x qual params body scope dvs kws f fd) (S : FnScope N ps scope) (hl : 2 = ps.length)
    (hb : ∀ (cdv : Value) (A : Around) (outer : List Env) (s : Shared) (H : Hp) (E : XK) (hr : Room k (A.deeper (envOfC qual scope s.heap.objs.size f cdv)))  (a1 : α1) (a2 : α2), PSs (cxOf CX0 P w K mg base N qual scope f cdv A outer s H E).nox body
      (tS ⟨H, []⟩ (([E1 a1, E2 a2] : List Pd).map some ++ List.replicate (N.length - 2) none) [] (fF (RF ⟨H, []⟩ (fun _ => []) (Rp))) (Mf a1 a2))) : FnOk P w K mg base CX0 (k + 1) f fd ps (Sp_FF_f E1 E2 Mf Rp) := by
  refine FD.ok S (fun vs H Q E h => ?_) (fun cdv A outer s H vs Q E hr h => ?_)
  · obtain ⟨v1, v2, a1, a2, rfl, _⟩ := h
    exact hl
  · obtain ⟨v1, v2, a1, a2, rfl, p1, p2, r, hM, fin⟩ := h
    refine ⟨_, PSs.nox (hb cdv A outer s H E hr  a1 a2), ok_start (Δ := []) rfl (.cons p1 (.cons p2 (.nil))) ?_ ?_ ?_, r, hM, fin⟩
    · exact fun _ h => nomatch h
    · exact List.nodup_nil
    · exact fun _ _ h => nomatch h
theorem x_FF_f {X : Cx} {W : Bool} {F : Fm} {Γ : Gm} {Δ : Δs} {γ : Type} {x : Str} {p pos : Pos} {e1 e2 : Expr} {f : Addr} {fd : FuncData} {ps : List Str} {kk : Nat} {α1 α2 ρ β1 β2 : Type} {E1 : α1 → Pd} {E2 : α2 → Pd} {Mf : α1 → α2 → Option (ρ)} {Rp : ρ → Pd} {T : Option γ} {Δ1 : β1 → Δs} {x1 : β1 → α1} {k1 : β1 → Option γ} {Δ2 : β1 → β2 → Δs} {x2 : β1 → β2 → α2} {k : (β1 × β2) × (ρ) → Option γ}
    (G : FnOk X.prog X.w X.K X.mg X.base CX0 kk f fd ps (Sp_FF_f E1 E2 Mf Rp)) (hr : Room kk X.A) (hm : X.mg x = some (.ref f)) (hk : PySem.W.keepIn X.K (.ref f) = true) (hb : Binds X.K fd ps []) (h1 : PE X e1 (tE W F Γ Δ T (k1) (fun b1 => E1 (x1 b1)) (Δ1))) (h2 : ∀ b1, PE X e2 (tE W F Γ (Δ1 b1) (k1 b1) (fun b2 => (Mf (x1 b1) (x2 b1 b2)).bind fun r => k ((b1, b2), r)) (fun b2 => E2 (x2 b1 b2)) (Δ2 b1)))
     (hg : Gl X x := by rfl) (hdb : (x == ("__debug__" : Str)) = false := by decide) (st1 : starEach [e1, e2] X.env = (false, eval e1 X.env) :: starEach [e2] X.env := by rfl) (st2 : starEach [e2] X.env = (false, eval e2 X.env) :: starEach [] X.env := by rfl) (hpl : (backTo pos (starEach [e2] X.env)).any (·.1) = false := by rfl) :
    PE X (.Call (.Name x p) [e1, e2] [] pos) (tE W F Γ Δ T k (fun b => Rp b.2) fun b => Δ2 b.1.1 b.1.2) :=
  (pe_call G hr hg hm hk hb .nil pass0 (pa_cons h1 (pa_cons (pe_ex fun b1 => h2 b1) pa_nil st2) st1) hdb st1 hpl).wk fun σ H Q ⟨ok, g, e, q⟩ => ⟨ok, g, e, fun b1 v1 H1 kb1 f1 ok1 hv1 => ⟨b1, ok1, g, kb1, fun b2 v2 H2 kb2 f2 ok2 hv2 => by
    obtain ⟨r, er, kr⟩ := bind_some kb2
    refine ⟨v1, v2, x1 b1, x2 b1 b2, rfl, ((E1 _).mono f2.fz hv1), hv2, r, er, fun v H' hk hv => ?_⟩
    obtain ⟨ok', st⟩ := call_f0 (W := W) ok2 hk
    exact q ((b1, b2), r) v H' kr ((f1.trans f2).trans st) ok' hv⟩⟩
def Sp_FF_o {α1 α2 ρ : Type} (E1 : α1 → Pd) (E2 : α2 → Pd) (Mf : α1 → α2 → Option (ρ)) (Rp : ρ → Od) : Sp := fun vs H Q _ => ∃ (v1 v2 : V)  (a1 : α1) (a2 : α2), vs = [v1, v2] ∧ (E1 a1).pr H v1 ∧ (E2 a2).pr H v2 ∧ ∃ r, Mf a1 a2 = some r ∧ RO ⟨H, []⟩ (fun _ => []) (Rp) r Q
theorem fn_FF_o {P : Program} {w : World} {K : PySem.W.Frag} {mg : Str → Option Value} {base : Heap} {x qual : Str} {params : Arguments} {body : List Stmt} {scope : Scope} {dvs : List V} {kws : List (Str × V)} {f : Addr} {fd : FuncData} {N ps : List Str} {k : Nat} {α1 α2 ρ : Type} {E1 : α1 → Pd} {E2 : α2 → Pd} {Mf : α1 → α2 → Option (ρ)} {Rp : ρ → Od}
    (FD : FunD K x qual params body scope dvs kws f fd) (S : FnScope N ps scope) (hl : 2 = ps.length)
    (hb : ∀ (cdv : Value) (A : Around) (outer : List Env) (s : Shared) (H : Hp) (E : XK) (hr : Room k (A.deeper (envOfC qual scope s.heap.objs.size f cdv)))  (a1 : α1) (a2 : α2), PSs (cxOf CX0 P w K mg base N qual scope f cdv A outer s H E).nox body
      (tS ⟨H, []⟩ (([E1 a1, E2 a2] : List Pd).map some ++ List.replicate (N.length - 2) none) [] (fF (RO ⟨H, []⟩ (fun _ => []) (Rp))) (Mf a1 a2))) : FnOk P w K mg base CX0 (k + 1) f fd ps (Sp_FF_o E1 E2 Mf Rp) := by
  refine FD.ok S (fun vs H Q E h => ?_) (fun cdv A outer s H vs Q E hr h => ?_)
  · obtain ⟨v1, v2, a1, a2, rfl, _⟩ := h
    exact hl
  · obtain ⟨v1, v2, a1, a2, rfl, p1, p2, r, hM, fin⟩ := h
    refine ⟨_, PSs.nox (hb cdv A outer s H E hr  a1 a2), ok_start (Δ := []) rfl (.cons p1 (.cons p2 (.nil))) ?_ ?_ ?_, r, hM, fin⟩
    · exact fun _ h => nomatch h
    · exact List.nodup_nil
    · exact fun _ _ h => nomatch h
theorem x_FF_o {X : Cx} {W : Bool} {F : Fm} {Γ : Gm} {Δ : Δs} {γ : Type} {x : Str} {p pos : Pos} {e1 e2 : Expr} {f : Addr} {fd : FuncData} {ps : List Str} {kk : Nat} {α1 α2 ρ β1 β2 : Type} {E1 : α1 → Pd} {E2 : α2 → Pd} {Mf : α1 → α2 → Option (ρ)} {Rp : ρ → Od} {T : Option γ} {Δ1 : β1 → Δs} {x1 : β1 → α1} {k1 : β1 → Option γ} {Δ2 : β1 → β2 → Δs} {x2 : β1 → β2 → α2} {k : (β1 × β2) × (ρ) → Option γ}
    (G : FnOk X.prog X.w X.K X.mg X.base CX0 kk f fd ps (Sp_FF_o E1 E2 Mf Rp)) (hr : Room kk X.A) (hm : X.mg x = some (.ref f)) (hk : PySem.W.keepIn X.K (.ref f) = true) (hb : Binds X.K fd ps []) (h1 : PE X e1 (tE W F Γ Δ T (k1) (fun b1 => E1 (x1 b1)) (Δ1))) (h2 : ∀ b1, PE X e2 (tE W F Γ (Δ1 b1) (k1 b1) (fun b2 => (Mf (x1 b1) (x2 b1 b2)).bind fun r => k ((b1, b2), r)) (fun b2 => E2 (x2 b1 b2)) (Δ2 b1)))
     (hg : Gl X x := by rfl) (hdb : (x == ("__debug__" : Str)) = false := by decide) (st1 : starEach [e1, e2] X.env = (false, eval e1 X.env) :: starEach [e2] X.env := by rfl) (st2 : starEach [e2] X.env = (false, eval e2 X.env) :: starEach [] X.env := by rfl) (hpl : (backTo pos (starEach [e2] X.env)).any (·.1) = false := by rfl) :
    PE X (.Call (.Name x p) [e1, e2] [] pos) (tO W F Γ Δ T k (fun b => Rp b.2) fun b => Δ2 b.1.1 b.1.2) :=
  (pe_call G hr hg hm hk hb .nil pass0 (pa_cons h1 (pa_cons (pe_ex fun b1 => h2 b1) pa_nil st2) st1) hdb st1 hpl).wk fun σ H Q ⟨ok, g, e, q⟩ => ⟨ok, g, e, fun b1 v1 H1 kb1 f1 ok1 hv1 => ⟨b1, ok1, g, kb1, fun b2 v2 H2 kb2 f2 ok2 hv2 => by
    obtain ⟨r, er, kr⟩ := bind_some kb2
    refine ⟨v1, v2, x1 b1, x2 b1 b2, rfl, ((E1 _).mono f2.fz hv1), hv2, r, er, fun v H' hk => ?_⟩
    obtain ⟨ok', st⟩ := call_o0 (W := W) ok2 hk
    exact q ((b1, b2), r) v H' kr ((f1.trans f2).trans st) (ok'.since (f1.trans f2))⟩⟩
def Sp_F_f {α1 ρ : Type} (E1 : α1 → Pd) (Mf : α1 → Option (ρ)) (Rp : ρ → Pd) : Sp := fun vs H Q _ => ∃ (v1 : V)  (a1 : α1), vs = [v1] ∧ (E1 a1).pr H v1 ∧ ∃ r, Mf a1 = some r ∧ RF ⟨H, []⟩ (fun _ => []) (Rp) r Q
theorem fn_F_f {P : Program} {w : World} {K : PySem.W.Frag} {mg : Str → Option Value} {base : Heap} {x qual : Str} {params : Arguments} {body : List Stmt} {scope : Scope} {dvs : List V} {kws : List (Str × V)} {f : Addr} {fd : FuncData} {N ps : List Str} {k : Nat} {α1 ρ : Type} {E1 : α1 → Pd} {Mf : α1 → Option (ρ)} {Rp : ρ → Pd}
    (FD : FunD K x qual params body scope dvs kws f fd) (S : FnScope N ps scope) (hl : 1 = ps.length)
    (hb : ∀ (cdv : Value) (A : Around) (outer : List Env) (s : Shared) (H : Hp) (E : XK) (hr : Room k (A.deeper (envOfC qual scope s.heap.objs.size f cdv)))  (a1 : α1), PSs (cxOf CX0 P w K mg base N qual scope f cdv A outer s H E).nox body
      (tS ⟨H, []⟩ (([E1 a1] : List Pd).map some ++ List.replicate (N.length - 1) none) [] (fF (RF ⟨H, []⟩ (fun _ => []) (Rp))) (Mf a1))) : FnOk P w K mg base CX0 (k + 1) f fd ps (Sp_F_f E1 Mf Rp) := by
  refine FD.ok S (fun vs H Q E h => ?_) (fun cdv A outer s H vs Q E hr h => ?_)
  · obtain ⟨v1, a1, rfl, _⟩ := h
    exact hl
  · obtain ⟨v1, a1, rfl, p1, r, hM, fin⟩ := h
    refine ⟨_, PSs.nox (hb cdv A outer s H E hr  a1), ok_start (Δ := []) rfl (.cons p1 (.nil)) ?_ ?_ ?_, r, hM, fin⟩
    · exact fun _ h => nomatch h
    · exact List.nodup_nil
    · exact fun _ _ h => nomatch h
theorem x_F_f {X : Cx} {W : Bool} {F : Fm} {Γ : Gm} {Δ : Δs} {γ : Type} {x : Str} {p pos : Pos} {e1 : Expr} {f : Addr} {fd : FuncData} {ps : List Str} {kk : Nat} {α1 ρ β1 : Type} {E1 : α1 → Pd} {Mf : α1 → Option (ρ)} {Rp : ρ → Pd} {T : Option γ} {Δ1 : β1 → Δs} {x1 : β1 → α1} {k : (β1) × (ρ) → Option γ}
    (G : FnOk X.prog X.w X.K X.mg X.base CX0 kk f fd ps (Sp_F_f E1 Mf Rp)) (hr : Room kk X.A) (hm : X.mg x = some (.ref f)) (hk : PySem.W.keepIn X.K (.ref f) = true) (hb : Binds X.K fd ps []) (h1 : PE X e1 (tE W F Γ Δ T (fun b1 => (Mf (x1 b1)).bind fun r => k (b1, r)) (fun b1 => E1 (x1 b1)) (Δ1)))
     (hg : Gl X x := by rfl) (hdb : (x == ("__debug__" : Str)) = false := by decide) (st1 : starEach [e1] X.env = (false, eval e1 X.env) :: starEach [] X.env := by rfl) (hpl : (backTo pos (starEach [] X.env)).any (·.1) = false := by rfl) :
    PE X (.Call (.Name x p) [e1] [] pos) (tE W F Γ Δ T k (fun b => Rp b.2) fun b => Δ1 b.1) :=
  (pe_call G hr hg hm hk hb .nil pass0 (pa_cons h1 pa_nil st1) hdb st1 hpl).wk fun σ H Q ⟨ok, g, e, q⟩ => ⟨ok, g, e, fun b1 v1 H1 kb1 f1 ok1 hv1 => by
    obtain ⟨r, er, kr⟩ := bind_some kb1
    refine ⟨v1, x1 b1, rfl, hv1, r, er, fun v H' hk hv => ?_⟩
    obtain ⟨ok', st⟩ := call_f0 (W := W) ok1 hk
    exact q (b1, r) v H' kr (f1.trans st) ok' hv⟩
def Sp_OF_f {α1 α2 ρ : Type} (E1 : α1 → Od) (E2 : α2 → Pd) (Mf : α1 → α2 → Option (ρ × α1)) (Rp : ρ → Pd) : Sp := fun vs H Q _ => ∃ (v1 v2 : V) (G1 : List Addr) (a1 : α1) (a2 : α2), vs = [v1, v2] ∧ (E1 a1).pr G1 H v1 ∧ G1.Nodup ∧ (E2 a2).pr H v2 ∧ ∃ r, Mf a1 a2 = some r ∧ RF ⟨H, [G1]⟩ (fun r => [⟨v1, E1 r.2, some 0⟩]) (fun r => Rp r.1) r Q
theorem fn_OF_f {P : Program} {w : World} {K : PySem.W.Frag} {mg : Str → Option Value} {base : Heap} {x qual : Str} {params : Arguments} {body : List Stmt} {scope : Scope} {dvs : List V} {kws : List (Str × V)} {f : Addr} {fd : FuncData} {N ps : List Str} {k : Nat} {α1 α2 ρ : Type} {E1 : α1 → Od} {E2 : α2 → Pd} {Mf : α1 → α2 → Option (ρ × α1)} {Rp : ρ → Pd}
    (FD : FunD K x qual params body scope dvs kws f fd) (S : FnScope N ps scope) (hl : 2 = ps.length)
    (hb : ∀ (cdv : Value) (A : Around) (outer : List Env) (s : Shared) (H : Hp) (E : XK) (hr : Room k (A.deeper (envOfC qual scope s.heap.objs.size f cdv))) (v1 : V) (G1 : List Addr) (a1 : α1) (a2 : α2), PSs (cxOf CX0 P w K mg base N qual scope f cdv A outer s H E).nox body
      (tS ⟨H, [G1]⟩ (([pV v1, E2 a2] : List Pd).map some ++ List.replicate (N.length - 2) none) [⟨v1, E1 a1, some 0⟩] (fF (RF ⟨H, [G1]⟩ (fun r => [⟨v1, E1 r.2, some 0⟩]) (fun r => Rp r.1))) (Mf a1 a2))) : FnOk P w K mg base CX0 (k + 1) f fd ps (Sp_OF_f E1 E2 Mf Rp) := by
  refine FD.ok S (fun vs H Q E h => ?_) (fun cdv A outer s H vs Q E hr h => ?_)
  · obtain ⟨v1, v2, G1, a1, a2, rfl, _⟩ := h
    exact hl
  · obtain ⟨v1, v2, G1, a1, a2, rfl, p1, n1, p2, r, hM, fin⟩ := h
    refine ⟨_, PSs.nox (hb cdv A outer s H E hr v1 G1 a1 a2), ok_start (Δ := [⟨G1, v1, E1 a1, some 0⟩]) rfl (.cons rfl (.cons p2 (.nil))) ?_ ?_ ?_, r, hM, fin⟩
    · intro c hc; rw [List.mem_singleton.mp hc]; exact p1
    · rw [cellsOf_cons]; show (_ ++ []).Nodup; rw [List.append_nil]; exact n1
    · intro i c h; match i, h with | 0, h => cases h; rfl | _ + 1, h => cases h
theorem x_OF_f {X : Cx} {F : Fm} {Γ : Gm} {Δ : Δs} {γ : Type} {x : Str} {p pos : Pos} {e1 e2 : Expr} {f : Addr} {fd : FuncData} {ps : List Str} {kk : Nat} {α1 α2 ρ β1 β2 : Type} {E1 : α1 → Od} {E2 : α2 → Pd} {Mf : α1 → α2 → Option (ρ × α1)} {Rp : ρ → Pd} {T : Option γ} {Δ1 : β1 → Δs} {k1 : β1 → Option γ} {Δ2 : β1 → β2 → Δs} {x2 : β1 → β2 → α2} {v1 : V} {prm : Option Nat} {s1 : β1 → β2 → α1} {k : (β1 × β2) × (ρ × α1) → Option γ}
    (G : FnOk X.prog X.w X.K X.mg X.base CX0 kk f fd ps (Sp_OF_f E1 E2 Mf Rp)) (hr : Room kk X.A) (hm : X.mg x = some (.ref f)) (hk : PySem.W.keepIn X.K (.ref f) = true) (hb : Binds X.K fd ps []) (j : Nat) (h1 : PE X e1 (tE true F Γ Δ T (k1) (fun b1 => pV v1) (Δ1))) (h2 : ∀ b1, PE X e2 (tE true F Γ (Δ1 b1) (k1 b1) (fun b2 => (Mf (s1 b1 b2) (x2 b1 b2)).bind fun r => k ((b1, b2), r)) (fun b2 => E2 (x2 b1 b2)) (Δ2 b1)))
    (hj : ∀ b1 b2, (Δ2 b1 b2)[j]? = some ⟨v1, E1 (s1 b1 b2), prm⟩) (hg : Gl X x := by rfl) (hdb : (x == ("__debug__" : Str)) = false := by decide) (st1 : starEach [e1, e2] X.env = (false, eval e1 X.env) :: starEach [e2] X.env := by rfl) (st2 : starEach [e2] X.env = (false, eval e2 X.env) :: starEach [] X.env := by rfl) (hpl : (backTo pos (starEach [e2] X.env)).any (·.1) = false := by rfl) :
    PE X (.Call (.Name x p) [e1, e2] [] pos) (tE true F Γ Δ T k (fun b => Rp b.2.1) fun b => (Δ2 b.1.1 b.1.2).set j ⟨v1, E1 b.2.2, prm⟩) :=
  (pe_call G hr hg hm hk hb .nil pass0 (pa_cons h1 (pa_cons (pe_ex fun b1 => h2 b1) pa_nil st2) st1) hdb st1 hpl).wk fun σ H Q ⟨ok, g, e, q⟩ => ⟨ok, g, e, fun b1 v1 H1 kb1 f1 ok1 hv1 => ⟨b1, ok1, g, kb1, fun b2 v2 H2 kb2 f2 ok2 hv2 => by
    obtain ⟨r, er, kr⟩ := bind_some kb2
    have hv1 : v1 = _ := hv1
    subst hv1
    obtain ⟨G0, hcell, hnd, ret_f, ret_o⟩ := ok2.lend1 (hj b1 b2)
    refine ⟨_, v2, G0, s1 b1 b2, x2 b1 b2, rfl, hcell, hnd, hv2, r, er, fun v H' hk hv => ?_⟩
    obtain ⟨ok', st⟩ := ret_f _ _ hk
    exact q ((b1, b2), r) v H' kr ((f1.trans f2).trans st) ok' hv⟩⟩
def Sp_O_f {α1 ρ : Type} (E1 : α1 → Od) (Mf : α1 → Option (ρ × α1)) (Rp : ρ → Pd) : Sp := fun vs H Q _ => ∃ (v1 : V) (G1 : List Addr) (a1 : α1), vs = [v1] ∧ (E1 a1).pr G1 H v1 ∧ G1.Nodup ∧ ∃ r, Mf a1 = some r ∧ RF ⟨H, [G1]⟩ (fun r => [⟨v1, E1 r.2, some 0⟩]) (fun r => Rp r.1) r Q
theorem fn_O_f {P : Program} {w : World} {K : PySem.W.Frag} {mg : Str → Option Value} {base : Heap} {x qual : Str} {params : Arguments} {body : List Stmt} {scope : Scope} {dvs : List V} {kws : List (Str × V)} {f : Addr} {fd : FuncData} {N ps : List Str} {k : Nat} {α1 ρ : Type} {E1 : α1 → Od} {Mf : α1 → Option (ρ × α1)} {Rp : ρ → Pd}
    (FD : FunD K x qual params body scope dvs kws f fd) (S : FnScope N ps scope) (hl : 1 = ps.length)
    (hb : ∀ (cdv : Value) (A : Around) (outer : List Env) (s : Shared) (H : Hp) (E : XK) (hr : Room k (A.deeper (envOfC qual scope s.heap.objs.size f cdv))) (v1 : V) (G1 : List Addr) (a1 : α1), PSs (cxOf CX0 P w K mg base N qual scope f cdv A outer s H E).nox body
      (tS ⟨H, [G1]⟩ (([pV v1] : List Pd).map some ++ List.replicate (N.length - 1) none) [⟨v1, E1 a1, some 0⟩] (fF (RF ⟨H, [G1]⟩ (fun r => [⟨v1, E1 r.2, some 0⟩]) (fun r => Rp r.1))) (Mf a1))) : FnOk P w K mg base CX0 (k + 1) f fd ps (Sp_O_f E1 Mf Rp) := by
  refine FD.ok S (fun vs H Q E h => ?_) (fun cdv A outer s H vs Q E hr h => ?_)
  · obtain ⟨v1, G1, a1, rfl, _⟩ := h
    exact hl
  · obtain ⟨v1, G1, a1, rfl, p1, n1, r, hM, fin⟩ := h
    refine ⟨_, PSs.nox (hb cdv A outer s H E hr v1 G1 a1), ok_start (Δ := [⟨G1, v1, E1 a1, some 0⟩]) rfl (.cons rfl (.nil)) ?_ ?_ ?_, r, hM, fin⟩
    · intro c hc; rw [List.mem_singleton.mp hc]; exact p1
    · rw [cellsOf_cons]; show (_ ++ []).Nodup; rw [List.append_nil]; exact n1
    · intro i c h; match i, h with | 0, h => cases h; rfl | _ + 1, h => cases h
theorem x_O_f {X : Cx} {F : Fm} {Γ : Gm} {Δ : Δs} {γ : Type} {x : Str} {p pos : Pos} {e1 : Expr} {f : Addr} {fd : FuncData} {ps : List Str} {kk : Nat} {α1 ρ β1 : Type} {E1 : α1 → Od} {Mf : α1 → Option (ρ × α1)} {Rp : ρ → Pd} {T : Option γ} {Δ1 : β1 → Δs} {v1 : V} {prm : Option Nat} {s1 : β1 → α1} {k : (β1) × (ρ × α1) → Option γ}
    (G : FnOk X.prog X.w X.K X.mg X.base CX0 kk f fd ps (Sp_O_f E1 Mf Rp)) (hr : Room kk X.A) (hm : X.mg x = some (.ref f)) (hk : PySem.W.keepIn X.K (.ref f) = true) (hb : Binds X.K fd ps []) (j : Nat) (h1 : PE X e1 (tE true F Γ Δ T (fun b1 => (Mf (s1 b1)).bind fun r => k (b1, r)) (fun b1 => pV v1) (Δ1)))
    (hj : ∀ b1, (Δ1 b1)[j]? = some ⟨v1, E1 (s1 b1), prm⟩) (hg : Gl X x := by rfl) (hdb : (x == ("__debug__" : Str)) = false := by decide) (st1 : starEach [e1] X.env = (false, eval e1 X.env) :: starEach [] X.env := by rfl) (hpl : (backTo pos (starEach [] X.env)).any (·.1) = false := by rfl) :
    PE X (.Call (.Name x p) [e1] [] pos) (tE true F Γ Δ T k (fun b => Rp b.2.1) fun b => (Δ1 b.1).set j ⟨v1, E1 b.2.2, prm⟩) :=
  (pe_call G hr hg hm hk hb .nil pass0 (pa_cons h1 pa_nil st1) hdb st1 hpl).wk fun σ H Q ⟨ok, g, e, q⟩ => ⟨ok, g, e, fun b1 v1 H1 kb1 f1 ok1 hv1 => by
    obtain ⟨r, er, kr⟩ := bind_some kb1
    have hv1 : v1 = _ := hv1
    subst hv1
    obtain ⟨G0, hcell, hnd, ret_f, ret_o⟩ := ok1.lend1 (hj b1)
    refine ⟨_, G0, s1 b1, rfl, hcell, hnd, r, er, fun v H' hk hv => ?_⟩
    obtain ⟨ok', st⟩ := ret_f _ _ hk
    exact q (b1, r) v H' kr (f1.trans st) ok' hv⟩
end L3
end
section
set_option maxHeartbeats 4000000
namespace L3
open PySem PySem.Spec PyProof.Rows L2
def WalkF {α : Type} (J : It) (Ex : α → Pd) (xs : List α) (H : Hp) : Prop := ∀ H', Fzs H H' → ∀ i, (i < xs.length → J.go i H') ∧ (xs.length ≤ i → J.stop i H') ∧ ∀ x v H'', xs[i]? = some x → J.yld i H' v H'' → Gr H' H'' ∧ (Ex x).pr H'' v
def tI {α β γ : Type} (W : Bool) (F : Fm) (Γ : Gm) (Δ : Δs) (T : Option γ) (k : β → Option γ) (Ex : α → Pd) (xs : β → List α) (Δ' : β → Δs) : TI := fun σ H R =>
  Ok F Γ Δ σ H ∧ ∃ g, T = some g ∧ ∀ b J H', k b = some g → St W H H' → Ok F Γ (Δ' b) σ H' → (xs b).length ≤ sizeLine → WalkF J Ex (xs b) H' → R J H'
def forS {α S : Type} : List α → S → (α → S → Option S) → Option S
  | [], s, _ => some s
  | x :: xs, s, f => (f x s).bind fun s' => forS xs s' f
def forL {α S ρ : Type} : List α → S → (α → S → Option (Bo S (Tm S ρ))) → Option (Bo S ρ)
  | [], s, _ => some (.nx s)
  | x :: xs, s, f => (f x s).bind fun o => match o with
    | .nx s' => forL xs s' f
    | .tm (.ct s') => forL xs s' f
    | .tm (.bk s') => some (.nx s')
    | .tm (.rt r) => some (.tm r)
def rngL (lo : Int) (n : Nat) : List Int := (List.range n).map fun (i : Nat) => lo + (i : Int)
def rg (n : Int) : Bool := decide (-(2 ^ 62) ≤ n) && decide (n ≤ 16777216)
def rg2 (m n : Int) : Bool := decide (-(2 ^ 62) ≤ m) && (decide (m < 2 ^ 62) && (decide (-(2 ^ 62) ≤ n) && (decide (n < 2 ^ 62) && decide (n - m ≤ 16777216))))
theorem rngL_len (lo : Int) (n : Nat) : (rngL lo n).length = n := by unfold rngL; rw [List.length_map, List.length_range]
section
variable {X : Cx} {W : Bool} {F : Fm} {Γ : Gm} {Δ : Δs} {γ : Type}
theorem _root_.L2.PI.wk {tg iter : Expr} {t t' : TI} (h : PI X tg iter t) (w : ∀ σ H R, t' σ H R → t σ H R) : PI X tg iter t' := ⟨fun pins s σ H R I q => h.run pins s σ H R I (w σ H R q)⟩
theorem i_list {tg l : Expr} {α β : Type} {T : Option γ} {k : β → Option γ} {Ex : α → Pd} {xs : β → List α} {Δ' : β → Δs} (he : PE X l (tE W F Γ Δ T k (fun b => pL Ex (xs b)) Δ')) : PI X tg l (tI W F Γ Δ T k Ex xs Δ') :=
  (pi_list he).wk fun σ H R ⟨ok, g, e, q⟩ => ⟨ok, g, e, fun b v H' kb f ok' ⟨a, o, vs, ev, h, z, p⟩ => ⟨a, ev, ⟨vs, .inl (.inr ⟨o, h⟩)⟩, q b _ H' kb f ok' z fun H2 f2 i => by
    have h2 : SqL X.K H2 a vs := .inl (.inr ⟨o, f2 _ _ trivial h⟩)
    refine ⟨fun hi => ?_, fun hi => ⟨vs, h2, by rw [← paired_len p]; exact hi⟩, fun x v H3 hx hy => ?_⟩
    · obtain ⟨u, hu, _⟩ := paired_at p (List.getElem?_eq_getElem hi)
      exact ⟨vs, u, h2, hu⟩
    · obtain ⟨e3, hy⟩ := hy
      obtain ⟨u, hu, pu⟩ := paired_at p hx
      have e4 := hy vs h2
      rw [hu] at e4
      cases e4
      subst e3
      exact ⟨Gr.refl _, (Ex x).mono f2 pu⟩⟩⟩
theorem rng_walk {lo : Int} {n : Nat} {H : Hp} : WalkF (Itr lo n) pInt (rngL lo n) H := fun H2 f2 i => by
  have hl : (rngL lo n).length = n := by unfold rngL; rw [List.length_map, List.length_range]
  rw [hl]
  refine ⟨fun h => h, fun h => h, fun x v H3 hx hy => ?_⟩
  obtain ⟨e1, e2⟩ := hy
  subst e1
  refine ⟨Gr.refl _, ?_⟩
  unfold rngL at hx
  rw [List.getElem?_map] at hx
  cases hr : (List.range n)[i]? with
  | none => rw [hr] at hx; cases hx
  | some m =>
    rw [hr] at hx
    have hi : i < n := by
      have := (List.getElem?_eq_some_iff.mp hr).1
      rwa [List.length_range] at this
    rw [List.getElem?_range hi] at hr
    cases hr
    have hx : lo + (i : Int) = x := by simpa using hx
    rw [← hx]
    exact e2
theorem i_rng1 {tg a : Expr} {p pos : Pos} {β : Type} {T : Option γ} {k : β → Option γ} {n : β → Int} {Δ' : β → Δs} (hm : X.mg "range" = none) (he : PE X a (tE W F Γ Δ T (fun b => grd (rg (n b) = true) (k b)) (fun b => pInt (n b)) Δ')) (hg : Gl X "range" := by rfl)
    (hs : starEach [a] X.env = [(false, eval a X.env)] := by rfl) : PI X tg (.Call (.Name "range" p) [a] [] pos) (tI W F Γ Δ T k pInt (fun b => rngL 0 (n b).toNat) Δ') :=
  (pi_range1 hg hm (pa_cons he pa_nil hs) hs).wk fun σ H R ⟨ok, g, e, q⟩ => ⟨ok, g, e, fun b v H' kb f ok' hv => by
    obtain ⟨c, kb⟩ := grd_some kb
    obtain ⟨c1, c2⟩ := Bool.and_eq_true_iff.mp c
    have hv : v = .int (n b) := hv
    subst hv
    have c2 := of_decide_eq_true c2
    exact ⟨n b, rfl, of_decide_eq_true c1, by omega, q b _ H' kb f ok' (by rw [rngL_len]; have : sizeLine = 16777216 := rfl; omega) rng_walk⟩⟩
theorem i_rng2 {tg a b : Expr} {p pos : Pos} {β1 β2 : Type} {T : Option γ} {k1 : β1 → Option γ} {k : β1 × β2 → Option γ} {m : β1 → Int} {n : β1 → β2 → Int} {Δ1 : β1 → Δs} {Δ2 : β1 → β2 → Δs} (hm : X.mg "range" = none) (ha : PE X a (tE W F Γ Δ T k1 (fun b => pInt (m b)) Δ1))
    (hb : ∀ b1, PE X b (tE W F Γ (Δ1 b1) (k1 b1) (fun b2 => grd (rg2 (m b1) (n b1 b2) = true) (k (b1, b2))) (fun b2 => pInt (n b1 b2)) (Δ2 b1))) (hg : Gl X "range" := by rfl)
    (hs : starEach [a, b] X.env = [(false, eval a X.env), (false, eval b X.env)] := by rfl) (hs2 : starEach [b] X.env = [(false, eval b X.env)] := by rfl) (hs3 : starEach [a, b] X.env = (false, eval a X.env) :: starEach [b] X.env := by rfl) : PI X tg (.Call (.Name "range" p) [a, b] [] pos) (tI W F Γ Δ T k pInt (fun b => rngL (m b.1) (n b.1 b.2 - m b.1).toNat) fun b => Δ2 b.1 b.2) :=
  (pi_range2 hg hm (pa_cons ha (pa_cons (pe_ex hb) pa_nil hs2) hs3) hs hs2).wk fun σ H R ⟨ok, g, e, q⟩ => ⟨ok, g, e, fun b1 v1 H1 kb1 f1 ok1 hv1 => ⟨b1, ok1, g, kb1, fun b2 v2 H2 kb2 f2 ok2 hv2 => by
    obtain ⟨c, kb⟩ := grd_some kb2
    obtain ⟨c1, c⟩ := Bool.and_eq_true_iff.mp c
    obtain ⟨c2, c⟩ := Bool.and_eq_true_iff.mp c
    obtain ⟨c3, c⟩ := Bool.and_eq_true_iff.mp c
    obtain ⟨c4, c5⟩ := Bool.and_eq_true_iff.mp c
    have c5 := of_decide_eq_true c5
    have hv1 : v1 = .int (m b1) := hv1
    have hv2 : v2 = .int (n b1 b2) := hv2
    subst hv1 hv2
    exact ⟨m b1, n b1 b2, rfl, ⟨of_decide_eq_true c1, of_decide_eq_true c2, of_decide_eq_true c3, of_decide_eq_true c4⟩, q (b1, b2) _ H2 kb (f1.trans f2) ok2 (by rw [rngL_len]; have : sizeLine = 16777216 := rfl; dsimp only; omega) rng_walk⟩⟩⟩
def Tgt {α : Type} (g : TG) (Ex : α → Pd) (bd : Gm → α → Gm) : Prop := ∀ (F : Fm) (Γ : Gm) (Δ : Δs) (σ : SS) (H : Hp) (x : α) (v : V) (Q : SS → Hp → Prop), Ok F Γ Δ σ H → (Ex x).pr H v → (∀ σ', Ok F (bd Γ x) Δ σ' H → Q σ' H) → g v σ H Q
theorem tg_name {α : Type} {Ex : α → Pd} (i : Nat) : Tgt (gName i) Ex (fun Γ x => Γ.set i (some (Ex x))) := fun _ _ _ _ _ _ _ _ ok hv q => q _ (ok.set hv)
variable {N : Fn γ} {rest : List Stmt}
theorem drop_cons {α : Type} {xs : List α} {i : Nat} (h : i < xs.length) : ∃ x, xs[i]? = some x ∧ xs.drop i = x :: xs.drop (i + 1) := ⟨xs[i], List.getElem?_eq_getElem h, List.drop_eq_getElem_cons h⟩
theorem s_for {tg iter : Expr} {body : List Stmt} {pos : Pos} {g : TG} {α β S ρ : Type} {T : Option γ} {Ex : α → Pd} {bd : Gm → α → Gm} {xs : β → List α} {Δ' : β → Δs} {f : β → α → S → Option (Bo S (Tm S ρ))} {k2 : β → S → Option γ} {ι : ρ → γ} {R : Rt ρ} (hp : PassesOwn (model X.prog X.w) X.A X.env X.xe) (C : β → S → Cxt) (s0 : β → S)
    (hi : PI X tg iter (tI true F Γ Δ T (fun b => (forL (xs b) (s0 b) (f b)).bind (boK (k2 b) ι)) Ex xs Δ')) (hg : PG X tg g) (ht : Tgt g Ex bd) (h0 : ∀ b, SubG (C b (s0 b)).1 Γ) (h0d : ∀ b, (C b (s0 b)).2.Sublist (Δ' b))
    (hb : ∀ b x s, PSs X body (tS F (bd (C b s).1 x) (C b s).2 (fB F (C b) (fT F (C b) R)) (f b x s))) (hr : ∀ b s, PSs X rest (tS F (C b s).1 (C b s).2 N (k2 b s))) (hN : ∀ H r D, N.fin H (ι r) D → R r D.rt) (hc : X.calm = true := by rfl) (hfs : ∀ x, foldedSetIterable iter X.env x = pure x := by intro _; rfl) :
    PSs X (.For tg iter body [] pos :: rest) (tS F Γ Δ N T) :=
  (pss_cons (ps_for hp hc hi hg (pss_ex fun b => pss_ex fun x => pss_ex fun s => hb b x s) hfs) (pss_ex fun b => pss_ex fun s => hr b s)).wk fun D σ H ⟨ok, gg, e, fin⟩ => ⟨ok, gg, e, fun b J H1 kb f1 ok1 _ wk => by
    obtain ⟨o, eo, ko⟩ := bind_some kb
    refine ⟨fun i m σ' H' => i + m = (xs b).length ∧ Fzs H1 H' ∧ ∃ s, Ok F (C b s).1 (C b s).2 σ' H' ∧ forL ((xs b).drop i) s (f b) = some o, ⟨(xs b).length, Nat.zero_add _, Fzs.refl _, s0 b, ok1.wk (h0 b) (h0d b), by rw [List.drop_zero]; exact eo⟩, fun i m σ2 H2 ⟨em, fz2, s, ok2, e2⟩ => ?_⟩
    by_cases hi : i < (xs b).length
    · obtain ⟨x, hx, ed⟩ := drop_cons hi
      rw [ed] at e2
      have e2 : (f b x s).bind _ = some o := e2
      obtain ⟨ob, eb, e2⟩ := bind_some e2
      refine .inr ⟨((wk H2 fz2) i).1 hi, fun σ3 H3 => (i + 1) + (m - 1) = (xs b).length ∧ Fzs H1 H3 ∧ ∃ s, Ok F (C b s).1 (C b s).2 σ3 H3 ∧ forL ((xs b).drop (i + 1)) s (f b) = some o, fun σ3 H3 h3 => ⟨m - 1, by omega, h3⟩, fun v H3 hy => ?_⟩
      obtain ⟨gr3, pv⟩ := ((wk H2 fz2) i).2.2 x v H3 hx hy
      refine ht F _ _ σ2 H3 x v _ (ok2.gr gr3) pv fun σ4 ok4 => ⟨b, x, s, ok4, ob, eb, ?_⟩
      cases ob with
      | nx s' => exact fun σ5 H5 f5 ok5 => ⟨by omega, (fz2.trans gr3.fzs).trans f5, s', ok5, e2⟩
      | tm t =>
        cases t with
        | ct s' => exact fun σ5 H5 f5 ok5 => ⟨by omega, (fz2.trans gr3.fzs).trans f5, s', ok5, e2⟩
        | bk s' =>
          have e2 : some (Bo.nx s') = some o := e2
          cases e2
          exact fun σ5 H5 f5 ok5 => ⟨b, s', ok5, gg, ko, N.mono fin (f1.fz.trans ((fz2.trans gr3.fzs).trans f5))⟩
        | rt r =>
          have e2 : some (Bo.tm r) = some o := e2
          cases e2
          have ko : some (ι r) = some gg := ko
          cases ko
          exact hN H r D fin
    · refine .inl ⟨((wk H2 fz2) i).2.1 (by omega), ?_⟩
      rw [List.drop_eq_nil_of_le (by omega)] at e2
      have e2 : some (Bo.nx s) = some o := e2
      cases e2
      exact ⟨b, s, ok2, gg, ko, N.mono fin (f1.fz.trans fz2)⟩⟩
theorem s_forS {tg iter : Expr} {body : List Stmt} {pos : Pos} {g : TG} {α β S : Type} {T : Option γ} {Ex : α → Pd} {bd : Gm → α → Gm} {xs : β → List α} {Δ' : β → Δs} {f : β → α → S → Option S} {k2 : β → S → Option γ} (hp : PassesOwn (model X.prog X.w) X.A X.env X.xe) (C : β → S → Cxt) (s0 : β → S)
    (hi : PI X tg iter (tI true F Γ Δ T (fun b => (forS (xs b) (s0 b) (f b)).bind (k2 b)) Ex xs Δ')) (hg : PG X tg g) (ht : Tgt g Ex bd) (h0 : ∀ b, SubG (C b (s0 b)).1 Γ) (h0d : ∀ b, (C b (s0 b)).2.Sublist (Δ' b))
    (hb : ∀ b x s, PSs X body (tS F (bd (C b s).1 x) (C b s).2 (fN F (C b)) (f b x s))) (hr : ∀ b s, PSs X rest (tS F (C b s).1 (C b s).2 N (k2 b s))) (hc : X.calm = true := by rfl) (hfs : ∀ x, foldedSetIterable iter X.env x = pure x := by intro _; rfl) :
    PSs X (.For tg iter body [] pos :: rest) (tS F Γ Δ N T) :=
  (pss_cons (ps_for hp hc hi hg (pss_ex fun b => pss_ex fun x => pss_ex fun s => hb b x s) hfs) (pss_ex fun b => pss_ex fun s => hr b s)).wk fun D σ H ⟨ok, gg, e, fin⟩ => ⟨ok, gg, e, fun b J H1 kb f1 ok1 _ wk => by
    obtain ⟨o, eo, ko⟩ := bind_some kb
    refine ⟨fun i m σ' H' => i + m = (xs b).length ∧ Fzs H1 H' ∧ ∃ s, Ok F (C b s).1 (C b s).2 σ' H' ∧ forS ((xs b).drop i) s (f b) = some o, ⟨(xs b).length, Nat.zero_add _, Fzs.refl _, s0 b, ok1.wk (h0 b) (h0d b), by rw [List.drop_zero]; exact eo⟩, fun i m σ2 H2 ⟨em, fz2, s, ok2, e2⟩ => ?_⟩
    by_cases hi : i < (xs b).length
    · obtain ⟨x, hx, ed⟩ := drop_cons hi
      rw [ed] at e2
      have e2 : (f b x s).bind _ = some o := e2
      obtain ⟨s', eb, e2⟩ := bind_some e2
      refine .inr ⟨((wk H2 fz2) i).1 hi, fun σ3 H3 => (i + 1) + (m - 1) = (xs b).length ∧ Fzs H1 H3 ∧ ∃ s, Ok F (C b s).1 (C b s).2 σ3 H3 ∧ forS ((xs b).drop (i + 1)) s (f b) = some o, fun σ3 H3 h3 => ⟨m - 1, by omega, h3⟩, fun v H3 hy => ?_⟩
      obtain ⟨gr3, pv⟩ := ((wk H2 fz2) i).2.2 x v H3 hx hy
      exact ht F _ _ σ2 H3 x v _ (ok2.gr gr3) pv fun σ4 ok4 => ⟨b, x, s, ok4, s', eb, fun σ5 H5 f5 ok5 => ⟨by omega, (fz2.trans gr3.fzs).trans f5, s', ok5, e2⟩⟩
    · refine .inl ⟨((wk H2 fz2) i).2.1 (by omega), ?_⟩
      rw [List.drop_eq_nil_of_le (by omega)] at e2
      have e2 : s = o := Option.some.inj e2
      rw [e2] at ok2
      exact ⟨b, o, ok2, gg, ko, N.mono fin (f1.fz.trans fz2)⟩⟩
def whL {S ρ : Type} : Nat → (S → Option (Option (Bo S (Tm S ρ)))) → S → Option (Bo S ρ)
  | 0, _, _ => none
  | n + 1, f, s => (f s).bind fun o => match o with
    | none => some (.nx s)
    | some (.nx s') => whL n f s'
    | some (.tm (.ct s')) => whL n f s'
    | some (.tm (.bk s')) => some (.nx s')
    | some (.tm (.rt r)) => some (.tm r)
theorem wfuelEx : ∃ n : Nat, n = 1000000000 := ⟨_, rfl⟩
noncomputable def wfuel : Nat := Classical.choose wfuelEx
theorem wfuel_eq : wfuel = 1000000000 := Classical.choose_spec wfuelEx
theorem s_while {ce : Expr} {body : List Stmt} {pos : Pos} {β S ρ : Type} {T : Option γ} {st : S → Option (Option (Bo S (Tm S ρ)))} {c : S → β → Bool} {f : S → β → Option (Bo S (Tm S ρ))} {k2 : S → Option γ} {ι : ρ → γ} {R : Rt ρ} (hp : PassesOwn (model X.prog X.w) X.A X.env X.xe) (C : S → Cxt) (s0 : S) (hT : T = (whL wfuel st s0).bind (boK k2 ι))
    (hcn : ∀ s, PT X ce (tTs true F (C s).1 (C s).2 (st s) (fun b => if c s b = true then (f s b).bind (fun o => some (some o)) else some none) (c s) fun _ => (C s).2)) (h0 : SubG (C s0).1 Γ) (h0d : (C s0).2.Sublist Δ)
    (hb : ∀ s b, PSs X body (tS F (C s).1 (C s).2 (fB F C (fT F C R)) (f s b))) (hr : ∀ s, PSs X rest (tS F (C s).1 (C s).2 N (k2 s))) (hN : ∀ H r D, N.fin H (ι r) D → R r D.rt) : PSs X (.While ce body [] pos :: rest) (tS F Γ Δ N T) :=
  (pss_cons (ps_while hp (pt_ex hcn) (pss_ex fun s => pss_ex fun b => hb s b)) (pss_ex hr)).wk fun D σ H ⟨ok, gg, e, fin⟩ => by
    rw [hT] at e
    obtain ⟨o, eo, ko⟩ := bind_some e
    refine ⟨fun m σ' H' => Fzs H H' ∧ ∃ s, Ok F (C s).1 (C s).2 σ' H' ∧ whL m st s = some o, ⟨wfuel, Fzs.refl _, s0, ok.wk h0 h0d, eo⟩, fun m σ2 H2 ⟨fz2, s, ok2, e2⟩ => ?_⟩
    cases m with
    | zero => cases e2
    | succ n =>
      have e2 : (st s).bind _ = some o := e2
      obtain ⟨w, ew, e2⟩ := bind_some e2
      refine ⟨s, ok2, w, ew, fun b H3 kb f3 ok3 => ?_⟩
      try dsimp only at kb
      cases hcb : c s b with
      | true =>
        rw [if_pos hcb] at kb
        obtain ⟨ob, eb, ew2⟩ := bind_some kb
        cases ew2
        refine iteT ⟨fun σ4 H4 => ∃ m', m' < n + 1 ∧ Fzs H H4 ∧ ∃ s, Ok F (C s).1 (C s).2 σ4 H4 ∧ whL m' st s = some o, fun σ4 H4 h => h, s, b, ok3, ob, eb, ?_⟩
        cases ob with
        | nx s' => exact fun σ5 H5 f5 ok5 => ⟨n, by omega, (fz2.trans f3.fz).trans f5, s', ok5, e2⟩
        | tm t =>
          cases t with
          | ct s' => exact fun σ5 H5 f5 ok5 => ⟨n, by omega, (fz2.trans f3.fz).trans f5, s', ok5, e2⟩
          | bk s' =>
            have e2 : some (Bo.nx s') = some o := e2
            cases e2
            exact fun σ5 H5 f5 ok5 => ⟨s', ok5, gg, ko, N.mono fin ((fz2.trans f3.fz).trans f5)⟩
          | rt r =>
            have e2 : some (Bo.tm r) = some o := e2
            cases e2
            have ko : some (ι r) = some gg := ko
            cases ko
            exact hN H r D fin
      | false =>
        rw [if_neg (by rw [hcb]; exact Bool.false_ne_true)] at kb
        cases kb
        have e2 : some (Bo.nx s) = some o := e2
        cases e2
        exact iteF ⟨s, ok3, gg, ko, N.mono fin (fz2.trans f3.fz)⟩
end
end L3
end
section
set_option maxHeartbeats 4000000
namespace L3
open PySem PySem.Spec PyProof.Rows L2
theorem perm_lift {A B : Δs} (p : A.Perm B) : ∀ {Δ0 : List Cel}, Δ0.map Cel.fg = A → ∃ Δ1 : List Cel, Δ0.Perm Δ1 ∧ Δ1.map Cel.fg = B := by
  induction p with
  | nil => intro Δ0 e; exact ⟨Δ0, List.Perm.refl _, e⟩
  | cons x _ ih =>
    intro Δ0 e
    cases Δ0 with
    | nil => cases e
    | cons y r =>
      rw [List.map_cons] at e
      injection e with e1 e2
      obtain ⟨Δ1, q, e3⟩ := ih e2
      exact ⟨y :: Δ1, q.cons y, by rw [List.map_cons, e3, e1]⟩
  | swap x y l =>
    intro Δ0 e
    cases Δ0 with
    | nil => cases e
    | cons a r =>
      cases r with
      | nil => cases e
      | cons b r =>
        have e' : a.fg = y ∧ b.fg = x ∧ r.map Cel.fg = l := by simpa using e
        exact ⟨b :: a :: r, List.Perm.swap _ _ _, by rw [List.map_cons, List.map_cons, e'.1, e'.2.1, e'.2.2]⟩
  | trans _ _ ih1 ih2 =>
    intro Δ0 e
    obtain ⟨Δ1, q1, e1⟩ := ih1 e
    obtain ⟨Δ2, q2, e2⟩ := ih2 e1
    exact ⟨Δ2, q1.trans q2, e2⟩
theorem Hk.perm {F : Fm} {Δ Δ' : Δs} {H : Hp} (k : Hk F Δ H) (p : Δ.Perm Δ') : Hk F Δ' H := by
  obtain ⟨Δ0, e, k⟩ := k
  obtain ⟨Δ1, q, e1⟩ := perm_lift p e
  exact ⟨Δ1, e1, k.perm q⟩
theorem Hk.one {W : Bool} {F : Fm} {Δ : Δs} {H H0 : Hp} {D : Addr} {α : Type} {E : α → Pd} {xs : List α} {Γ : Gm} {σ : SS} (k : Hk F (⟨.ref D, oL E xs, none⟩ :: Δ) H) (n : Nm Γ σ H) (h0 : H0 D = none) : OkN W F Γ H0 (.ref D) (oL E xs) Δ σ H := by
  obtain ⟨Δ0, e, k⟩ := k
  cases Δ0 with
  | nil => cases e
  | cons y r =>
    obtain ⟨yG, yv, yd, yp⟩ := y
    have e' : (⟨yv, yd, yp⟩ : Cell) = ⟨.ref D, oL E xs, none⟩ ∧ r.map Cel.fg = Δ := by simpa [Cel.fg] using e
    obtain ⟨e1, e2⟩ := e'
    cases e1
    obtain ⟨p, vs, eG, ev, _⟩ := k.del _ List.mem_cons_self
    cases ev
    have eG : yG = [D] := eG
    subst eG
    exact ⟨r, [D], e2, k, fun _ a ha => by rw [List.mem_singleton.mp ha]; exact h0, n⟩
section
variable {X : Cx} {W : Bool} {F : Fm} {Γ : Gm} {Δ : Δs} {γ : Type}
section
variable {α β β2 β3 δ S : Type} {g : TG} {own : List (Str × Nat)} {T : Option γ} {k0 : β → Option γ} {k : β × (List δ × S) → Option γ} {out : β × (List δ × S) → List δ} {Ex : α → Pd} {Ee : δ → Pd} {bd : Gm → α → Gm} {xs : β → List α} {Δ1 : β → Δs} {C : β → S → Δs} {s0 : β → S} {f : β → α → S → Option (Option δ × S)}
    {c : β → α → S → β2 → Bool} {s2 : β → α → S → β2 → S} {T2 : β → α → S → β2 → Option (Option δ × S)} {y : β → α → S → β2 → β3 → δ} {s3 : β → α → S → β2 → β3 → S}
end
end
end L3
end
section
set_option maxHeartbeats 4000000
namespace L3
open PySem PySem.Spec PyProof.Rows L2
section
variable {X : Cx} {W : Bool} {F : Fm} {Γ : Gm} {Δ : Δs} {γ : Type}
structure Flat {α : Type} [DecidableEq α] (E : α → Pd) where
  mp : α → V
  eq : ∀ {x H v}, (E x).pr H v → v = mp x
  rel : ∀ {x H}, (E x).pr H (mp x)
  fl : ∀ x, flatV (mp x) = true
  one : ∀ x y, eqV (mp x) (mp y) = decide (x = y)
def flStr : Flat pStr := ⟨V.str, fun h => h, rfl, fun _ => rfl, fun x y => by show (x == y) = _; by_cases h : x = y <;> simp [h]⟩
theorem flat_vals {α : Type} {E : α → Pd} [DecidableEq α] (fl : Flat E) {H : Hp} : ∀ {xs : List α} {vs : List V}, Paired (fun x u => (E x).pr H u) xs vs → vs = xs.map fl.mp
  | _, _, .nil => rfl
  | _, _, .cons r t => by rw [List.map_cons, ← flat_vals fl t, fl.eq r]
theorem flat_in {α : Type} {E : α → Pd} [DecidableEq α] (fl : Flat E) (i : α) : ∀ xs : List α, inV (fl.mp i) (xs.map fl.mp) = decide (i ∈ xs)
  | [] => by simp [inV]
  | x :: xs => by
    have ih := flat_in fl i xs
    unfold inV at ih ⊢
    rw [List.map_cons, List.any_cons, ih, fl.one]
    by_cases h : x = i
    · simp [h]
    · have h2 : ¬ i = x := fun z => h z.symm
      simp [h, h2]
theorem flat_all {α : Type} {E : α → Pd} [DecidableEq α] (fl : Flat E) : ∀ xs : List α, (xs.map fl.mp).all flatV = true
  | [] => rfl
  | x :: xs => by rw [List.map_cons, List.all_cons, fl.fl, flat_all fl xs]; rfl
section
variable {a b : Expr} {pos : Pos} {β1 β2 α : Type} [DecidableEq α] {T : Option γ} {k1 : β1 → Option γ} {k : β1 × β2 → Option γ} {Δ1 : β1 → Δs} {Δ2 : β1 → β2 → Δs} {Ee : α → Pd} {i : β1 → α} {E2 : β1 → β2 → Pd} {xs : β1 → β2 → List α}
theorem v_inL (fl : Flat Ee) {neg : Bool} (rd : ∀ b1 b2, RdL (Δ2 b1 b2) (E2 b1 b2) Ee (xs b1 b2)) : ∀ b1 b2 σ v w H Q, Ok F Γ (Δ2 b1 b2) σ H → (Ee (i b1)).pr H v → (E2 b1 b2).pr H w → (∀ u, (pBl (if neg then !decide (i b1 ∈ xs b1 b2) else decide (i b1 ∈ xs b1 b2))).pr H u → Q u H) → rIn X.K neg v w H Q :=
  fun b1 b2 σ v w H Q ok hv hw q => by
    obtain ⟨p, vs, ev, sq, _, pr⟩ := (rd b1 b2 F H w ok.hk hw).sq (K := X.K)
    have e1 := flat_vals fl pr
    subst e1
    have e2 := fl.eq hv
    subst e2
    refine ⟨p, _, ev, .inl sq, fl.fl _, flat_all fl _, ?_⟩
    rw [flat_in fl]
    exact q _ rfl
theorem t_inL (fl : Flat Ee) (ha : PE X a (tE W F Γ Δ T k1 (fun b => Ee (i b)) Δ1)) (hb : ∀ b1, PE X b (tE W F Γ (Δ1 b1) (k1 b1) (fun b2 => k (b1, b2)) (E2 b1) (Δ2 b1))) (rd : ∀ b1 b2, RdL (Δ2 b1 b2) (E2 b1 b2) Ee (xs b1 b2)) (hm : behindInMarks .In b = false := by rfl) :
    PT X (.Compare a [.In] [b] pos) (tTs W F Γ Δ T k (fun b => decide (i b.1 ∈ xs b.1 b.2)) fun b => Δ2 b.1 b.2) := t2t (bt_cmp op_in_seq hm) ha hb (v_inL (neg := false) fl rd)
theorem v_eqF (fl : Flat Ee) (sc : ∀ x y, scal (fl.mp x) (fl.mp y) = true) (inj : ∀ x y, fl.mp x = fl.mp y → x = y) {j : β1 → β2 → α} : ∀ b1 b2 σ v w H Q, Ok F Γ (Δ2 b1 b2) σ H → (Ee (i b1)).pr H v → (Ee (j b1 b2)).pr H w → (∀ u, (pBl (decide (i b1 = j b1 b2))).pr H u → Q u H) → rEq v w H Q :=
  fun b1 b2 σ v w H Q ok hv hw q => by
    rw [fl.eq hv, fl.eq hw]
    refine ⟨sc _ _, q _ ?_⟩
    show V.bl _ = V.bl _
    congr 1
    by_cases z : i b1 = j b1 b2
    · rw [z]; simp
    · rw [decide_eq_false z, decide_eq_false fun y => z (inj _ _ y)]
end
section
variable {a b : Expr} {pos : Pos} {β1 β2 : Type} {T : Option γ} {k1 : β1 → Option γ} {k : β1 × β2 → Option γ} {Δ1 : β1 → Δs} {Δ2 : β1 → β2 → Δs} {i : β1 → Str} {j : β1 → β2 → Str} {c : β1 → Bool} {d : β1 → β2 → Bool}
theorem x_eqS (ha : PE X a (tE W F Γ Δ T k1 (fun b => pStr (i b)) Δ1)) (hb : ∀ b1, PE X b (tE W F Γ (Δ1 b1) (k1 b1) (fun b2 => k (b1, b2)) (fun b => pStr (j b1 b)) (Δ2 b1))) : PE X (.Compare a [.Eq] [b] pos) (tE W F Γ Δ T k (fun b => pBl (decide (i b.1 = j b.1 b.2))) fun b => Δ2 b.1 b.2) := x2t (b_cmp op_eq (nomark _)) ha hb (v_eqF flStr (fun _ _ => rfl) fun _ _ h => V.str.inj h)
end
section
variable {a b : Expr} {pos : Pos} {β1 β2 α : Type} [DecidableEq α] {T : Option γ} {k1 : β1 → Option γ} {k : β1 × β2 → Option γ} {Δ1 : β1 → Δs} {Δ2 : β1 → β2 → Δs} {Ee : α → Pd} {E1 : β1 → Pd} {E2 : β1 → β2 → Pd} {xs ys : β1 → β2 → List α}
end
end
end L3
end
section
set_option maxHeartbeats 4000000
namespace L3
open PySem PySem.Spec PyProof.Rows L2
section
variable {X : Cx} {W : Bool} {F : Fm} {Γ : Gm} {Δ : Δs} {γ : Type}
theorem _root_.L2.PO.wk {e : Option Expr} {t t' : TO} (h : PO X e t) (w : ∀ σ H Q, t' σ H Q → t σ H Q) : PO X e t' := ⟨fun pins s σ H Q I q => h.run pins s σ H Q I (w σ H Q q)⟩
section
variable {a : Expr} {lo hi : Option Expr} {p2 pos : Pos} {β1 β2 β3 α : Type} {T : Option γ} {k1 : β1 → Option γ} {k2 : β1 → β2 → Option γ} {k : β1 × β2 × β3 → Option γ} {E1 : β1 → Pd} {Ee : α → Pd} {xs : β1 → β2 → β3 → List α} {o1 : β1 → β2 → Option Int} {o2 : β1 → β2 → β3 → Option Int} {Δ1 : β1 → Δs} {Δ2 : β1 → β2 → Δs} {Δ3 : β1 → β2 → β3 → Δs}
end
section
variable {a : Expr} {β α : Type} {T : Option γ} {k : β → Option γ} {E1 : β → Pd} {Ee : α → Pd} {xs : β → List α} {Δ1 : β → Δs}
variable {p pos : Pos}
end
section
variable {a : Expr} {i : Int} {n : Nat} {p pos : Pos} {β α1 α2 α3 : Type} {T : Option γ} {k : β → Option γ} {A : α1 → Pd} {B : α2 → Pd} {C : α3 → Pd} {Δ1 : β → Δs}
end
section
variable {a b : Expr} {pos : Pos} {β1 β2 α : Type} {T : Option γ} {k1 : β1 → Option γ} {k : β1 × β2 → Option γ} {Δ1 : β1 → Δs} {Δ2 : β1 → β2 → Δs} {Ee : α → Pd} {E1 : β1 → Pd} {E2 : β1 → β2 → Pd} {xs ys : β1 → β2 → List α}
end
section
variable {o e : Expr} {apos cpos : Pos} {β1 β2 α : Type} {T : Option γ} {k1 : β1 → Option γ} {k : β1 × β2 → Option γ} {Δ1 : β1 → Δs} {Δ2 : β1 → β2 → Δs} {Ee : α → Pd} {xs : β1 → β2 → List α} {y : β1 → β2 → α} {v : V} {prm : Option Nat}
theorem x_app (j : Nat) (ho : PE X o (tE true F Γ Δ T k1 (fun _ => pV v) Δ1)) (he : ∀ b1, PE X e (tE true F Γ (Δ1 b1) (k1 b1) (fun b2 => grd ((xs b1 b2).length < sizeLine) (k (b1, b2))) (fun b2 => Ee (y b1 b2)) (Δ2 b1))) {xs0 : β1 → List α} {prm0 : Option Nat} (hj0 : ∀ b1, (Δ1 b1)[j]? = some ⟨v, oL Ee (xs0 b1), prm0⟩)
    (hj : ∀ b1 b2, (Δ2 b1 b2)[j]? = some ⟨v, oL Ee (xs b1 b2), prm⟩)
    (hbase : attributeBase o "append" X.env (eval o X.env) = eval o X.env := by rfl) (hline : (apos.endLine == cpos.line) = true := by rfl) (hs : starEach [e] X.env = (false, eval e X.env) :: starEach [] X.env := by rfl)
    (hfew : ((backTo cpos (starEach [e] X.env)).all (fun x => !x.1) && (backToKw cpos (keywordEach [] X.env)).all (fun x => x.1.isSome) && decide ([e].length + ([] : List Keyword).length + (if ([] : List Keyword).isEmpty then 0 else 1) < 30)) = true := by rfl) :
    PE X (.Call (.Attribute o "append" apos) [e] [] cpos) (tE true F Γ Δ T k (fun _ => pNon) fun b => (Δ2 b.1 b.2).set j ⟨v, oL Ee (xs b.1 b.2 ++ [y b.1 b.2]), prm⟩) :=
  (pe_bm PySem.F.plainAttrs_list PySem.F.slot_list_append PySem.F.type_list_append mt_append ho (pa_cons (pe_ex he) pa_nil hs) hbase hfew hline hs).wk fun σ H Q ⟨ok, g, e, q⟩ => ⟨ok, g, e, fun b1 u H1 kb1 f1 ok1 hu => by
    have hu : u = v := hu
    subst hu
    obtain ⟨_, p0, vs0, _, ev0, hp0, _, _⟩ := ok1.hk.at (hj0 b1)
    have ev0 : u = .ref p0 := ev0
    refine ⟨by rw [ev0]; exact .inl ⟨rfl, vs0, .inl (.inl hp0)⟩, b1, ok1, g, kb1, fun b2 w H2 kb2 f2 ok2 hw => ?_⟩
    obtain ⟨c, kb⟩ := grd_some kb2
    obtain ⟨G, ⟨p, vs, eG, ev, hp, z, pr⟩, _, turn⟩ := ok2.cell (hj b1 b2)
    have fzm : Fzs H2 (upd H2 p (.lst (vs ++ [w]))) := Fzs.mut hp fun z => z
    obtain ⟨ok3, f3⟩ := turn (upd H2 p (.lst (vs ++ [w]))) (oL Ee (xs b1 b2 ++ [y b1 b2])) (fun a o na e => by
      rw [upd_ne fun z => na (by rw [eG, z]; exact List.mem_singleton.mpr rfl)]; exact e)
      ⟨p, vs ++ [w], eG, ev, upd_same, by rw [List.length_append, List.length_singleton]; omega, paired_app (paired_mono (fun x _ => (Ee x).mono fzm) pr) (.cons ((Ee _).mono fzm hw) .nil)⟩
    exact ⟨p, vs, w, ev, rfl, hp, by rw [← paired_len pr]; exact c, q (b1, b2) .non _ kb ((f1.trans f2).trans f3) ok3 rfl⟩⟩
end
section
variable {a : Expr} {pos p : Pos} {j : Nat} {β α : Type} {T : Option γ} {k : β → Option γ} {Ee : α → Pd} {x : β → Option α} {Δ1 : β → Δs}
def NotNon {α : Type} (E : α → Pd) : Prop := ∀ x H v, (E x).pr H v → v ≠ .non
theorem nnInt : NotNon pInt := fun _ _ _ h z => by rw [h] at z; cases z
theorem opt_non {α : Type} {E : α → Pd} (nn : NotNon E) : ∀ {x : Option α} {H : Hp} {v : V}, (pOp E x).pr H v → decide (v = .non) = x.isNone
  | none, _, _, h => by rw [show _ = V.non from h]; rfl
  | some x, _, _, h => decide_eq_false (nn x _ _ h)
theorem x_isN (nn : NotNon Ee) (ha : PE X a (tE W F Γ Δ T k (fun b => pOp Ee (x b)) Δ1)) : PE X (.Compare a [.Is] [.Constant .none j p] pos) (tE W F Γ Δ T k (fun b => pBl (x b).isNone) Δ1) :=
  (pe_cmpR op_isN ha pe_non (nomark _)).wk fun σ H Q ⟨ok, g, e, q⟩ => ⟨ok, g, e, fun b v H1 kb f ok1 hv => ⟨rfl, by rw [opt_non nn hv]; exact q b _ H1 kb f ok1 rfl⟩⟩
def TyP (Δ : Δs) (p : Pd) (t : String) : Prop := ∀ K F H v, Hk F Δ H → p.pr H v → TyX K H v (.type t)
theorem tyInt {i : Int} : TyP Δ (pInt i) "int" := fun _ _ _ _ _ h => by rw [h]; exact .base (.int _)
theorem tyStr {i : Str} : TyP Δ (pStr i) "str" := fun _ _ _ _ _ h => by rw [h]; exact .base (.str _)
theorem tyNon : TyP Δ pNon "NoneType" := fun _ _ _ _ _ h => by rw [h]; exact .base .non
theorem x_isi {E1 : β → Pd} {cls : Str} {cn : String} {p1 p2 : Pos} (t : β → String) (r : β → Bool) (hm : X.mg "isinstance" = none) (hm2 : X.mg cls = none) (ha : PE X a (tE W F Γ Δ T k E1 Δ1)) (ty : ∀ b, TyP (Δ1 b) (E1 b) (t b)) (hr : ∀ b, kitB (t b) cn = some (r b)) (hb : bootBuiltins cls = some (.type cn)) (hg : Gl X "isinstance" := by rfl) (hg2 : Gl X cls := by rfl)
    (hn : cls ≠ "__name__" := by decide) (hdb : (cls == ("__debug__" : Str)) = false := by decide) (hs : starEach [a, .Name cls p2] X.env = (false, eval a X.env) :: starEach [.Name cls p2] X.env := by rfl) (hs2 : starEach [.Name cls p2] X.env = (false, eval (.Name cls p2) X.env) :: starEach [] X.env := by rfl) (hpl : (backTo pos (starEach [.Name cls p2] X.env)).any (·.1) = false := by rfl) :
    PE X (.Call (.Name "isinstance" p1) [a, .Name cls p2] [] pos) (tE W F Γ Δ T k (fun b => pBl (r b)) Δ1) :=
  (b_callB call_isi hg hm boot_isinstance (by decide) (by decide) hs hs2 hpl _ _ ha (pe_bltn (v := .ty cn) hg2 hm2 hb rfl hn hdb)).wk fun σ H Q ⟨ok, g, e, q⟩ => ⟨ok, g, e, fun b v H1 kb f ok1 hv => ⟨v, .ty cn, .type (t b), .type cn, r b, rfl, .ty cn, ty b X.K F H1 v ok1.hk hv, kit_ty (hr b), q b _ H1 kb f ok1 rfl⟩⟩
end
end
end L3
end
section
set_option maxHeartbeats 8000000
namespace L3
open PySem PySem.Spec PyProof.Rows L2
section
variable {P : Program} {w : World} {A : Around} {E : Value → Shared → Prop} {s : Shared}
end
section
variable {X : Cx}
variable {W : Bool} {F : Fm} {Γ : Gm} {Δ : Δs} {γ : Type}
def pTrue : Pd := ⟨fun _ _ => True, fun _ h => h⟩
def u64 (n : Nat) : Bool := decide (n < 64)
section
variable {a : Expr} {p pos : Pos} {β : Type} {T : Option γ} {E1 : β → Pd} {xs : β → List Int} {Δ1 : β → Δs}
end
end
end L3
end
section
set_option maxHeartbeats 8000000
namespace L3
open PySem PySem.Spec PyProof.Rows L2
section
variable {P : Program} {w : World} {A : Around} {E : Value → Shared → Prop} {s : Shared}
end
section
variable {X : Cx} {W : Bool} {F : Fm} {Γ : Gm} {Δ : Δs} {γ : Type}
section
variable {a : Expr} {p pos : Pos} {β : Type} {T : Option γ} {xs : β → List Int} {Δ1 : β → Δs} {k : β → Option γ}
end
end
end L3
end
section
set_option maxHeartbeats 4000000
namespace L3
open PySem PySem.Spec PyProof.Rows L2
section
variable {X : Cx} {W : Bool} {F : Fm} {Γ : Gm} {Δ : Δs} {γ : Type}
def FlatE {β : Type} (E : β → Pd) : Prop := ∀ b H H' v, (E b).pr H v → (E b).pr H' v
theorem feInt {β : Type} {i : β → Int} : FlatE fun b => pInt (i b) := fun _ _ _ _ h => h
theorem feBl {β : Type} {i : β → Bool} : FlatE fun b => pBl (i b) := fun _ _ _ _ h => h
theorem Ok.lockC {σ : SS} {H : Hp} {i j : Nat} {c : Cell} (ok : Ok F Γ Δ σ H) (hj : Δ[j]? = some c) (hi : Γ[i]? = some (some (pV c.v))) : ∃ G, G.Nodup ∧ c.d.pr G H c.v ∧ ∀ H1, (∀ a, a ∉ G → H1 a = H a) → (∀ a ∈ G, ∀ u, H a = some u → ∃ o, H1 a = some (.frz o u)) → Ok F (Γ.set i (some c.d.pd)) (Δ.eraseIdx j) σ H1 := by
  obtain ⟨⟨Δ0, e, k⟩, n⟩ := ok
  subst e
  obtain ⟨A, x, B, e0, el, ex⟩ := map_at hj
  subst e0
  subst ex
  have k1 := k.perm mid_perm
  have hc := k1.del x List.mem_cons_self
  refine ⟨x.G, k1.ndup.1, hc, fun H1 h1 h2 => ?_⟩
  obtain ⟨r, fz, _⟩ := k1.rest (H' := H1) (fun a o na e => by rw [h1 a na]; exact e) (fun a ha => by
    obtain ⟨u, hu, _⟩ := x.d.cells hc a ha
    obtain ⟨o, ho⟩ := h2 a ha u hu
    exact ⟨_, ho⟩)
  refine ⟨⟨A ++ B, by rw [← el]; exact map_erase, r⟩, by rw [List.length_set]; exact n.len, fun m p e => ?_⟩
  by_cases h : m = i
  · subst h
    rw [List.getElem?_set_self (List.getElem?_eq_some_iff.mp hi).1] at e
    cases e
    obtain ⟨w, hs, hv⟩ := n.gam m _ hi
    have hv : w = x.v := hv
    subst hv
    exact ⟨_, hs, x.d.lockd hc h1 h2⟩
  · rw [List.getElem?_set_ne (fun z => h z.symm)] at e
    obtain ⟨w, hs, hv⟩ := n.gam m p e
    exact ⟨w, hs, p.mono fz hv⟩
def tLkE : List Addr → TE → TE
  | [], t => t
  | _ :: G, t => tLockE (tLkE G t)
theorem pe_lkE {e : Expr} {t : TE} (h : PE X e t) : ∀ G : List Addr, PE X e (tLkE G t)
  | [] => h
  | _ :: G => pe_lock (pe_lkE h G)
theorem tLkE_of {t : TE} {σ : SS} (mono : ∀ H (Q Q' : VK), (∀ v H', Q v H' → Q' v H') → t σ H Q → t σ H Q') : ∀ {G : List Addr} {H : Hp} {Q : VK}, G.Nodup → (∀ a ∈ G, ∃ u, H a = some u ∧ Mut (some u)) →
    (∀ H1, (∀ a, a ∉ G → H1 a = H a) → (∀ a ∈ G, ∀ u, H a = some u → ∃ o, H1 a = some (.frz o u)) → t σ H1 fun v H' => (∀ a ∈ G, H' a = H1 a) ∧ ∀ H2 : Hp, (∀ a, a ∉ G → H2 a = H' a) → (∀ a ∈ G, H2 a = H a) → Q v H2) → tLkE G t σ H Q
  | [], H, Q, _, _, k => mono H _ _ (fun v H' h => h.2 H' (fun _ _ => rfl) fun _ h => absurd h List.not_mem_nil) (k H (fun _ _ => rfl) fun _ h => absurd h List.not_mem_nil)
  | d :: G, H, Q, nd, hm, k => by
    obtain ⟨nd1, nd2⟩ := List.nodup_cons.mp nd
    obtain ⟨u, hu, mu⟩ := hm d List.mem_cons_self
    refine ⟨d, u, hu, mu, fun od => tLkE_of mono nd2 (fun a ha => ?_) fun H1 h1 h2 => ?_⟩
    · rw [upd_ne (fun e => nd1 (by rw [← e]; exact ha))]
      exact hm a (List.mem_cons_of_mem _ ha)
    · have k1 : ∀ a, a ∉ d :: G → H1 a = H a := fun a ha => by
        rw [h1 a (fun z => ha (List.mem_cons_of_mem _ z)), upd_ne (fun e => ha (by rw [e]; exact List.mem_cons_self))]
      have k2 : ∀ a ∈ d :: G, ∀ w, H a = some w → ∃ o, H1 a = some (.frz o w) := fun a ha w hw => by
        by_cases e : a = d
        · subst e
          rw [hu] at hw
          cases hw
          exact ⟨od, by rw [h1 a nd1, upd_same]⟩
        · rcases List.mem_cons.mp ha with z | z
          · exact absurd z e
          · exact h2 a z w (by rw [upd_ne e]; exact hw)
      refine mono _ _ _ (fun v H' q => ⟨fun a ha => q.1 a (List.mem_cons_of_mem _ ha), fun H2 r1 r2 => ⟨by rw [r1 d nd1, q.1 d List.mem_cons_self, h1 d nd1, upd_same], q.2 _ (fun a ha => ?_) (fun a ha => ?_)⟩⟩) (k H1 k1 k2)
      · rw [upd_ne (fun e => ha (by rw [e]; exact List.mem_cons_self)), r1 a fun z => ha (List.mem_cons_of_mem _ z)]
      · by_cases e : a = d
        · subst e; rw [upd_same, hu]
        · rcases List.mem_cons.mp ha with z | z
          · exact absurd z e
          · rw [upd_ne e, r2 a z, upd_ne e]
def tLockT (t : TT) : TT := fun σ H Q => ∃ d u, H d = some u ∧ Mut (some u) ∧ ∀ od, t σ (upd H d (.frz od u)) fun b H' => H' d = some (.frz od u) ∧ Q b (upd H' d u)
theorem pt_lockT {e : Expr} {t : TT} (h : PT X e t) : PT X e (tLockT t) := ⟨fun pins s σ H Q I ⟨d, u, hd, mu, hw⟩ => by
  obtain ⟨od, I1⟩ := I.lock hd mu
  exact thn (h.run pins s σ _ _ I1 (hw od)) fun b s1 ⟨H1, I2, e2, q⟩ => ⟨_, I2.unlock e2 (I.nofrz hd mu), q⟩⟩
def tLkT : List Addr → TT → TT
  | [], t => t
  | _ :: G, t => tLockT (tLkT G t)
theorem pt_lkT {e : Expr} {t : TT} (h : PT X e t) : ∀ G : List Addr, PT X e (tLkT G t)
  | [] => h
  | _ :: G => pt_lockT (pt_lkT h G)
theorem tLkT_of {t : TT} {σ : SS} (mono : ∀ H (Q Q' : Bool → Hp → Prop), (∀ v H', Q v H' → Q' v H') → t σ H Q → t σ H Q') : ∀ {G : List Addr} {H : Hp} {Q : Bool → Hp → Prop}, G.Nodup → (∀ a ∈ G, ∃ u, H a = some u ∧ Mut (some u)) →
    (∀ H1, (∀ a, a ∉ G → H1 a = H a) → (∀ a ∈ G, ∀ u, H a = some u → ∃ o, H1 a = some (.frz o u)) → t σ H1 fun v H' => (∀ a ∈ G, H' a = H1 a) ∧ ∀ H2 : Hp, (∀ a, a ∉ G → H2 a = H' a) → (∀ a ∈ G, H2 a = H a) → Q v H2) → tLkT G t σ H Q
  | [], H, Q, _, _, k => mono H _ _ (fun v H' h => h.2 H' (fun _ _ => rfl) fun _ h => absurd h List.not_mem_nil) (k H (fun _ _ => rfl) fun _ h => absurd h List.not_mem_nil)
  | d :: G, H, Q, nd, hm, k => by
    obtain ⟨nd1, nd2⟩ := List.nodup_cons.mp nd
    obtain ⟨u, hu, mu⟩ := hm d List.mem_cons_self
    refine ⟨d, u, hu, mu, fun od => tLkT_of mono nd2 (fun a ha => ?_) fun H1 h1 h2 => ?_⟩
    · rw [upd_ne (fun e => nd1 (by rw [← e]; exact ha))]
      exact hm a (List.mem_cons_of_mem _ ha)
    · have k1 : ∀ a, a ∉ d :: G → H1 a = H a := fun a ha => by
        rw [h1 a (fun z => ha (List.mem_cons_of_mem _ z)), upd_ne (fun e => ha (by rw [e]; exact List.mem_cons_self))]
      have k2 : ∀ a ∈ d :: G, ∀ w, H a = some w → ∃ o, H1 a = some (.frz o w) := fun a ha w hw => by
        by_cases e : a = d
        · subst e
          rw [hu] at hw
          cases hw
          exact ⟨od, by rw [h1 a nd1, upd_same]⟩
        · rcases List.mem_cons.mp ha with z | z
          · exact absurd z e
          · exact h2 a z w (by rw [upd_ne e]; exact hw)
      refine mono _ _ _ (fun v H' q => ⟨fun a ha => q.1 a (List.mem_cons_of_mem _ ha), fun H2 r1 r2 => ⟨by rw [r1 d nd1, q.1 d List.mem_cons_self, h1 d nd1, upd_same], q.2 _ (fun a ha => ?_) (fun a ha => ?_)⟩⟩) (k H1 k1 k2)
      · rw [upd_ne (fun e => ha (by rw [e]; exact List.mem_cons_self)), r1 a fun z => ha (List.mem_cons_of_mem _ z)]
      · by_cases e : a = d
        · subst e; rw [upd_same, hu]
        · rcases List.mem_cons.mp ha with z | z
          · exact absurd z e
          · rw [upd_ne e, r2 a z, upd_ne e]
theorem lk_back {G : List Addr} {H H1 H' H2 : Hp} (h1 : ∀ a, a ∉ G → H1 a = H a) (st : Gr H1 H') (r1 : ∀ a, a ∉ G → H2 a = H' a) (r2 : ∀ a ∈ G, H2 a = H a) : Gr H H2 := fun a o e => by
  by_cases ha : a ∈ G
  · rw [r2 a ha]; exact e
  · rw [r1 a ha]
    exact st a o (by rw [h1 a ha]; exact e)
theorem lk_kept {G : List Addr} {H H1 H' : Hp} (hm : ∀ a ∈ G, ∃ o, H a = some o ∧ Mut (some o)) (h2 : ∀ a ∈ G, ∀ u, H a = some u → ∃ o, H1 a = some (.frz o u)) (st : Gr H1 H') : ∀ a ∈ G, H' a = H1 a := fun a ha => by
  obtain ⟨u, hu, _⟩ := hm a ha
  obtain ⟨o, ho⟩ := h2 a ha u hu
  rw [ho]
  exact st a _ ho
theorem x_lockG {e : Expr} {β : Type} {T : Option γ} {k : β → Option γ} {E : β → Pd} {v : V} {d : Od} {prm : Option Nat} (j i : Nat) (fe : FlatE E)
    (he : PE X e (tE false F (Γ.set i (some d.pd)) (Δ.eraseIdx j) T k E fun _ => Δ.eraseIdx j)) (hj : Δ[j]? = some ⟨v, d, prm⟩ := by rfl) (hi : Γ[i]? = some (some (pV v)) := by rfl) : PE X e (tE W F Γ Δ T k E fun _ => Δ) :=
  (pe_ex fun G => pe_lkE he G).wk fun σ H Q ⟨ok, g, e, q⟩ => by
    obtain ⟨G, nd, hc, lk⟩ := ok.lockC hj hi
    refine ⟨G, tLkE_of (fun H Q Q' h ⟨a, g, b, c⟩ => ⟨a, g, b, fun b v H' k s o p => h v H' (c b v H' k s o p)⟩) nd (d.cells hc) fun H1 h1 h2 => ⟨lk H1 h1 h2, g, e, fun b w H' kb st ok2 hw => ⟨lk_kept (d.cells hc) h2 st.gr, fun H2 r1 r2 => ?_⟩⟩⟩
    have g2 := lk_back h1 st.gr r1 r2
    exact q b w H2 kb g2.st (ok.gr g2) (fe b _ _ w hw)
theorem t_lockG {e : Expr} {β : Type} {T : Option γ} {k : β → Option γ} {c : β → Bool} {v : V} {d : Od} {prm : Option Nat} (j i : Nat)
    (he : PT X e (tTs false F (Γ.set i (some d.pd)) (Δ.eraseIdx j) T k c fun _ => Δ.eraseIdx j)) (hj : Δ[j]? = some ⟨v, d, prm⟩ := by rfl) (hi : Γ[i]? = some (some (pV v)) := by rfl) : PT X e (tTs W F Γ Δ T k c fun _ => Δ) :=
  (pt_ex fun G => pt_lkT he G).wk fun σ H Q ⟨ok, g, e, q⟩ => by
    obtain ⟨G, nd, hc, lk⟩ := ok.lockC hj hi
    refine ⟨G, tLkT_of (fun H Q Q' h ⟨a, g, b, c⟩ => ⟨a, g, b, fun b H' k s o => h _ H' (c b H' k s o)⟩) nd (d.cells hc) fun H1 h1 h2 => ⟨lk H1 h1 h2, g, e, fun b H' kb st ok2 => ⟨lk_kept (d.cells hc) h2 st.gr, fun H2 r1 r2 => ?_⟩⟩⟩
    have g2 := lk_back h1 st.gr r1 r2
    exact q b H2 kb g2.st (ok.gr g2)
end
end L3
end
section
set_option maxHeartbeats 4000000
namespace L3
open PySem PySem.Spec PyProof.Rows L2
section
variable {X : Cx} {W : Bool} {F : Fm} {Γ : Gm} {Δ : Δs} {γ : Type}
def oLO {α : Type} (D : α → Od) (xs : List α) : Od where
  pr G H v := ∃ p vs gs, G = p :: gs.flatten ∧ v = .ref p ∧ H p = some (.lst vs) ∧ xs.length ≤ sizeLine ∧ Own3 D H xs vs gs
  pd := pL (fun x => (D x).pd) xs
  frame := fun {G H H' v} h k f => by
    obtain ⟨p, vs, gs, eg, ev, h, z, q⟩ := h
    exact ⟨p, vs, gs, eg, ev, k p (by rw [eg]; exact List.mem_cons_self) _ h, z, q.frame f fun a ha => k a (by rw [eg]; exact List.mem_cons_of_mem _ ha)⟩
  cells := fun ⟨p, vs, gs, eg, ev, h, z, q⟩ a ha => by
    rw [eg] at ha
    rcases List.mem_cons.mp ha with e | ha
    · rw [e]; exact ⟨_, h, trivial⟩
    · exact q.cells a ha
  lockd := fun {G H H1 v} ⟨p, vs, gs, eg, ev, h, z, q⟩ h1 h2 => by
    obtain ⟨o, ho⟩ := h2 p (by rw [eg]; exact List.mem_cons_self) _ h
    have hm : ∀ a ∈ G, ∃ o, H a = some o ∧ Mut (some o) := fun a ha => by
      rw [eg] at ha
      rcases List.mem_cons.mp ha with e | ha
      · rw [e]; exact ⟨_, h, trivial⟩
      · exact q.cells a ha
    exact ⟨p, o, vs, ev, ho, z, q.lockd h1 h2 hm fun a ha => by rw [eg]; exact List.mem_cons_of_mem _ ha⟩
theorem Own3.turn {α : Type} {D : α → Od} {H H' : Hp} {y : α} {v : V} {g : List Addr} (f : Fzs H H') (kp : ∀ a o, a ∉ g → H a = some o → H' a = some o) (new : (D y).pr g H' v) : ∀ {xs : List α} {vs : List V} {gs : List (List Addr)} {m : Nat}, Own3 D H xs vs gs → gs.flatten.Nodup → vs[m]? = some v → gs[m]? = some g → Own3 D H' (xs.set m y) vs gs
  | _, _, _, _, .nil, _, e, _ => by simp at e
  | _, _, _, 0, .cons r t, nd, e1, e2 => by
    simp at e1 e2
    subst e1 e2
    rw [List.flatten_cons] at nd
    exact .cons new (t.frame f fun a ha o e => kp a o (fun hg => (List.nodup_append.mp nd).2.2 a hg a ha rfl) e)
  | _, _, g0 :: gs, m + 1, .cons r t, nd, e1, e2 => by
    rw [List.flatten_cons] at nd
    have e2' : gs[m]? = some g := by simpa using e2
    refine .cons ((D _).frame r (fun a ha o e => kp a o (fun hg => ?_) e) f) (Own3.turn f kp new t (List.nodup_append.mp nd).2.1 (by simpa using e1) e2')
    exact (List.nodup_append.mp nd).2.2 a ha a (List.mem_flatten.mpr ⟨g, List.mem_of_getElem? e2', hg⟩) rfl
def oSeq {α : Type} (D : α → Od) (xs : List α) (vs : List V) : Od where
  pr G H _ := ∃ gs, G = gs.flatten ∧ Own3 D H xs vs gs
  pd := pTrue
  frame := fun {G H H' v} h k f => by
    obtain ⟨gs, eg, q⟩ := h
    exact ⟨gs, eg, q.frame f fun a ha => k a (by rw [eg]; exact ha)⟩
  cells := fun {G H v} h a ha => by
    obtain ⟨gs, eg, q⟩ := h
    exact q.cells a (by rw [← eg]; exact ha)
  lockd := fun _ _ _ => trivial
def tArO {α β γ : Type} (F : Fm) (Γ : Gm) (Δ : Δs) (T : Option γ) (k : β → Option γ) (D : α → Od) (xs : β → List α) (Δ' : β → Δs) : TA := fun σ H Q =>
  Ok F Γ Δ σ H ∧ ∃ g, T = some g ∧ ∀ b vs H', k b = some g → St true H H' → Ok F Γ (⟨.non, oSeq D (xs b) vs, none⟩ :: Δ' b) σ H' → Q vs H'
theorem ao_nil {α : Type} {D : α → Od} {k : Unit → Option γ} : PA X [] (tArO F Γ Δ (k ()) k D (fun _ => []) fun _ => Δ) :=
  pa_nil.wk fun σ H Q ⟨ok, g, e, q⟩ => q () [] H e (St.refl H) (by
    obtain ⟨⟨Δ0, e, k⟩, n⟩ := ok
    exact ⟨⟨⟨[], .non, oSeq D [] [], none⟩ :: Δ0, by rw [List.map_cons, e]; rfl, k.cons List.nodup_nil (fun _ h => nomatch h) ⟨[], rfl, .nil⟩ (fun _ h => nomatch h)⟩, n⟩)
theorem Hk.glue {α : Type} {D : α → Od} {x : α} {xs : List α} {v : V} {vs : List V} {H : Hp} (k : Hk F (⟨.non, oSeq D xs vs, none⟩ :: ⟨v, D x, none⟩ :: Δ) H) : Hk F (⟨.non, oSeq D (x :: xs) (v :: vs), none⟩ :: Δ) H := by
  obtain ⟨Δ0, e, k⟩ := k
  match Δ0, e, k with
  | [], e, _ => cases e
  | [_], e, _ =>
    have := congrArg List.length e
    simp at this
  | c1 :: c2 :: R, e, k =>
    obtain ⟨G1, v1, d1, p1⟩ := c1
    obtain ⟨G2, v2, d2, p2⟩ := c2
    have e' : (⟨v1, d1, p1⟩ : Cell) = ⟨.non, oSeq D xs vs, none⟩ ∧ (⟨v2, d2, p2⟩ : Cell) = ⟨v, D x, none⟩ ∧ R.map Cel.fg = Δ := by simpa [Cel.fg] using e
    obtain ⟨e1, e2, e3⟩ := e'
    cases e1
    cases e2
    obtain ⟨gs, eg, q⟩ := k.del _ List.mem_cons_self
    have eg : G1 = gs.flatten := eg
    have m2 := k.del _ (List.mem_cons_of_mem _ List.mem_cons_self)
    have nd1 := k.ndup
    have k2 := k.less (.cons _ (List.Sublist.refl _))
    have nd2 := k2.ndup
    have k3 := k2.less (.cons _ (List.Sublist.refl _))
    have own : ∀ a, a ∈ G2 ∨ a ∈ G1 → F.H0 a = none := fun a ha => by
      rcases ha with ha | ha
      · rcases k.own _ (List.mem_cons_of_mem _ List.mem_cons_self) a ha with z | ⟨_, _, z, _⟩
        · exact z
        · cases z
      · rcases k.own _ List.mem_cons_self a ha with z | ⟨_, _, z, _⟩
        · exact z
        · cases z
    refine ⟨⟨G2 ++ G1, .non, oSeq D (x :: xs) (v :: vs), none⟩ :: R, by rw [List.map_cons, e3]; rfl, k3.cons ?_ (fun a ha hb => ?_) ⟨G2 :: gs, by rw [List.flatten_cons, ← eg], .cons m2 q⟩ fun a ha => .inl (own a (List.mem_append.mp ha))⟩
    · refine List.nodup_append.mpr ⟨nd2.1, nd1.1, fun a ha b hb e => ?_⟩
      subst e
      exact nd1.2.2 a hb (by rw [cellsOf_cons]; exact List.mem_append_left _ ha)
    · rcases List.mem_append.mp ha with h | h
      · exact nd2.2.2 a h hb
      · exact nd1.2.2 a h (by rw [cellsOf_cons]; exact List.mem_append_right _ hb)
theorem ao_cons {a : Expr} {es : List Expr} {α β1 β2 : Type} {T : Option γ} {k1 : β1 → Option γ} {k : β1 × β2 → Option γ} {D : α → Od} {x : β1 → α} {xs : β1 → β2 → List α} {Δ1 : β1 → Δs} {Δ2 : β1 → β2 → Δs}
    (ha : PE X a (tO true F Γ Δ T k1 (fun b => D (x b)) Δ1)) (hr : ∀ b1 v, PA X es (tArO F Γ (⟨v, D (x b1), none⟩ :: Δ1 b1) (k1 b1) (fun b2 => k (b1, b2)) D (xs b1) fun b2 => ⟨v, D (x b1), none⟩ :: Δ2 b1 b2)) (hs : starEach (a :: es) X.env = (false, eval a X.env) :: starEach es X.env := by rfl) :
    PA X (a :: es) (tArO F Γ Δ T k D (fun b => x b.1 :: xs b.1 b.2) fun b => Δ2 b.1 b.2) :=
  (pa_cons ha (pa_ex fun b1 => pa_ex fun v => hr b1 v) hs).wk fun σ H Q ⟨ok, g, e, q⟩ => ⟨ok, g, e, fun b1 v H1 kb f1 ok1 => ⟨b1, v, ok1.ok, g, kb, fun b2 vs H2 kb2 f2 ok2 => q (b1, b2) (v :: vs) H2 kb2 (f1.trans f2) ⟨ok2.hk.glue, ok2.nm⟩⟩⟩
theorem x_dispO {es : List Expr} {pos : Pos} {β α : Type} {T : Option γ} {k : β → Option γ} {D : α → Od} {xs : β → List α} {Δ1 : β → Δs} (ha : PA X es (tArO F Γ Δ T k D xs Δ1)) (hz : ∀ b, (xs b).length ≤ 1000) :
    PE X (.List es pos) (tO true F Γ Δ T k (fun b => oLO D (xs b)) Δ1) :=
  (pe_lst ha).wk fun σ H Q ⟨ok, g, e, q⟩ => ⟨ok, g, e, fun b vs H' kb f ok' => by
    have z : (xs b).length ≤ sizeLine := Nat.le_trans (hz b) (by decide)
    obtain ⟨⟨Δ0, e0, k0⟩, n⟩ := ok'
    match Δ0, e0, k0 with
    | c1 :: R, e0, k0 =>
      obtain ⟨G1, v1, d1, p1⟩ := c1
      have e' : (⟨v1, d1, p1⟩ : Cell) = ⟨.non, oSeq D (xs b) vs, none⟩ ∧ R.map Cel.fg = Δ1 b := by simpa [Cel.fg] using e0
      obtain ⟨e1, e2⟩ := e'
      cases e1
      obtain ⟨gs, eg, o3⟩ := k0.del _ List.mem_cons_self
      have eg : G1 = gs.flatten := eg
      refine ⟨by rw [← o3.len]; exact z, fun p np => ?_⟩
      have gr : Gr H' (upd H' p (.lst vs)) := Gr.new np
      have k1 := k0.gr gr
      have nd := k1.ndup
      have k2 := k1.less (.cons _ (List.Sublist.refl _))
      have pn : ∀ {a}, a ∈ cellsOf (⟨G1, .non, oSeq D (xs b) vs, none⟩ :: R) → a ≠ p := fun {a} h e => by
        obtain ⟨o, e3, _⟩ := k0.isC h
        rw [e, np] at e3; cases e3
      refine q b (.ref p) _ kb (f.trans gr.st) ⟨R, p :: G1, e2, k2.cons (c := ⟨p :: G1, .ref p, oLO D (xs b), none⟩) ?_ (fun a ha hb => ?_) ⟨p, vs, gs, by rw [eg], rfl, upd_same, z, o3.frame gr.fzs fun a _ o e => gr a o e⟩ (fun a ha => .inl ?_), (fun h => nomatch h), n.mono gr.fzs⟩
      · exact List.nodup_cons.mpr ⟨fun h => pn (by rw [cellsOf_cons]; exact List.mem_append_left _ h) rfl, nd.1⟩
      · rcases List.mem_cons.mp ha with e | ha
        · exact pn (a := a) (by rw [cellsOf_cons]; exact List.mem_append_right _ hb) e
        · exact nd.2.2 a ha hb
      · rcases List.mem_cons.mp ha with e | ha
        · rw [e]; exact k0.fresh0 np
        · rcases k0.own _ List.mem_cons_self a ha with z | ⟨_, _, z, _⟩
          · exact z
          · cases z⟩
end
end L3
end
section
set_option maxHeartbeats 4000000
namespace L3
open PySem PySem.Spec PyProof.Rows L2
section
variable {X : Cx} {W : Bool} {F : Fm} {Γ : Gm} {Δ : Δs} {γ : Type} {N : Fn γ} {rest : List Stmt}
end
end L3
end
section
set_option maxHeartbeats 4000000
namespace L3
open PySem PySem.Spec PyProof.Rows L2
section
variable {X : Cx} {W : Bool} {F : Fm} {Γ : Gm} {Δ : Δs} {γ : Type}
section
variable {a : Expr} {pos : Pos} {β : Type} {T : Option γ} {k : β → Option γ} {Δ1 : β → Δs} {i : β → Int}
theorem x_neg (ha : PE X a (tE W F Γ Δ T k (fun b => pInt (i b)) Δ1)) : PE X (.UnaryOp .USub a pos) (tE W F Γ Δ T k (fun b => pInt (-(i b))) Δ1) :=
  x1t (u_un un_neg) ha fun b σ v H Q _ hv q => ⟨i b, hv, q _ rfl⟩
end
section
variable {a b : Expr} {pos : Pos} {β1 β2 : Type} {T : Option γ} {k1 : β1 → Option γ} {k : β1 × β2 → Option γ} {Δ1 : β1 → Δs} {Δ2 : β1 → β2 → Δs} {i : β1 → Str} {j : β1 → β2 → Str}
theorem x_addS (ha : PE X a (tE W F Γ Δ T k1 (fun b => pStr (i b)) Δ1)) (hb : ∀ b1, PE X b (tE W F Γ (Δ1 b1) (k1 b1) (fun b2 => grd ((i b1).length + (j b1 b2).length ≤ sizeLine) (k (b1, b2))) (fun b => pStr (j b1 b)) (Δ2 b1))) :
    PE X (.BinOp a .Add b pos) (tE W F Γ Δ T k (fun b => pStr (i b.1 ++ j b.1 b.2)) fun b => Δ2 b.1 b.2) :=
  x2g (b_op op_add_str) ha hb fun b1 b2 _ v w H Q _ c hv hw q => ⟨i b1, j b1 b2, hv, hw, c, q _ rfl⟩
end
theorem co_none {α β : Type} {E : α → Pd} {e : Expr} {T : Option γ} {k : β → Option γ} {Δ' : β → Δs} (he : PE X e (tE W F Γ Δ T k (fun _ => pNon) Δ')) : PE X e (tE W F Γ Δ T k (fun _ => pOp E (none : Option α)) Δ') := he
theorem co_some {α β : Type} {E : α → Pd} {x : β → α} {e : Expr} {T : Option γ} {k : β → Option γ} {Δ' : β → Δs} (he : PE X e (tE W F Γ Δ T k (fun b => E (x b)) Δ')) : PE X e (tE W F Γ Δ T k (fun b => pOp E (some (x b))) Δ') := he
section
variable {a b : Expr} {pos : Pos} {β1 β2 : Type} {T : Option γ} {k1 : β1 → Option γ} {k : β1 × β2 → Option γ} {Δ1 : β1 → Δs} {Δ2 : β1 → β2 → Δs} {i : β1 → Option Int} {j : β1 → β2 → Option Int} {c : β1 → Option Str} {d : β1 → β2 → Option Str}
end
section
variable {T : Option γ}
theorem y_var (i : Nat) {x : Str} {pos : Pos} {p : Pd} (h : Γ[i]? = some (some p) := by rfl) (hN : X.N[i]? = some x := by rfl) (hv : Vis X.env.scope x := by first | exact Or.inl rfl | exact Or.inr (Or.inl rfl) | exact Or.inr (Or.inr rfl))
    (hd : (x == ("__debug__" : Str)) = false := by decide) (hcd : (x == ("__classdict__" : Str)) = false := by decide) : PE X (.Name x pos) (tE W F Γ Δ T (fun _ : Unit => T) (fun _ => p) fun _ => Δ) := x_var (k := fun _ => T) i h hN hv hd hcd
theorem y_int {i : Int} {j pos} : PE X (.Constant (.int i) j pos) (tE W F Γ Δ T (fun _ : Unit => T) (fun _ => pInt i) fun _ => Δ) := x_int (k := fun _ => T)
theorem b_nil : PA X [] (tAr W F Γ Δ T (fun _ : Unit => T) (fun _ => []) fun _ => Δ) := a_nil (k := fun _ => T)
end
end
end L3
end
section
set_option maxHeartbeats 4000000
namespace L3
open PySem PySem.Spec PyProof.Rows L2
section
variable {X : Cx} {W : Bool} {F : Fm} {Γ : Gm} {Δ : Δs} {γ : Type}
theorem x_kd {β : Type} {e : Expr} {T : Option γ} {k : β → Option γ} {E E' : β → Pd} {Δ' : β → Δs} (h : PE X e (tE W F Γ Δ T k E' Δ')) (hE : ∀ b, E b = E' b := by intro _; rfl) : PE X e (tE W F Γ Δ T k E Δ') := by
  have e1 : E = E' := funext hE
  subst e1
  exact h
theorem o_kd {β : Type} {e : Expr} {T : Option γ} {k : β → Option γ} {E E' : β → Od} {Δ' : β → Δs} (h : PE X e (tO W F Γ Δ T k E' Δ')) (hE : ∀ b, E b = E' b := by intro _; rfl) : PE X e (tO W F Γ Δ T k E Δ') := by
  have e1 : E = E' := funext hE
  subst e1
  exact h
theorem t_kd {β : Type} {e : Expr} {T : Option γ} {k : β → Option γ} {c c' : β → Bool} {Δ' : β → Δs} (h : PT X e (tTs W F Γ Δ T k c' Δ')) (hE : ∀ b, c b = c' b := by intro _; rfl) : PT X e (tTs W F Γ Δ T k c Δ') := by
  have e1 : c = c' := funext hE
  subst e1
  exact h
theorem s_T {st : List Stmt} {N : Fn γ} {T T' : Option γ} (h : PSs X st (tS F Γ Δ N T')) (hT : T = T' := by rfl) : PSs X st (tS F Γ Δ N T) := by
  subst hT
  exact h
theorem t_totV {β : Type} {e : Expr} {T : Option γ} {c : β → Bool} {Δ' : β → Δs} (c0 : Bool) (b0 : β) (hβ : ∀ b, b = b0) (he : PT X e (tTs W F Γ Δ T (fun _ : β => T) c Δ')) (hΔ : Δ = Δ' b0 := by rfl) (hc : c0 = c b0 := by rfl) : PT X e (tTs W F Γ Δ T (fun _ : Unit => T) (fun _ => c0) fun _ => Δ) := by
  have h := t_tot b0 hβ he
  rw [← hc, ← hΔ] at h
  exact h
theorem x_totV {β : Type} {e : Expr} {T : Option γ} {E : β → Pd} {Δ' : β → Δs} (E0 : Pd) (b0 : β) (hβ : ∀ b, b = b0) (he : PE X e (tE W F Γ Δ T (fun _ : β => T) E Δ')) (hΔ : Δ = Δ' b0 := by rfl) (hc : E0 = E b0 := by rfl) : PE X e (tE W F Γ Δ T (fun _ : Unit => T) (fun _ => E0) fun _ => Δ) := by
  have h := x_tot b0 hβ he
  rw [← hc, ← hΔ] at h
  exact h
end
end L3
end
section
set_option maxHeartbeats 4000000
namespace L3
open PySem PySem.Spec PyProof.Rows L2
def pS (K : PySem.W.Frag) (xs : List Int) : Pd where
  pr H v := ∃ a, v = .ref a ∧ xs.length ≤ sizeLine ∧ ((∃ o, H a = some (.frz o (.lst (xs.map V.int)))) ∨ ∃ (o : Obj) (its : Array Value) (n : Nat), K.lookup a = some o ∧ o.cls = .type "list" ∧ o.dict = none ∧ o.data = .seq its n ∧ its.size ≤ sizeLine ∧ Vals (xs.map V.int) its.toList)
  mono := fun f ⟨a, e, z, h⟩ => ⟨a, e, z, h.imp (fun ⟨o, h⟩ => ⟨o, f _ _ trivial h⟩) id⟩
theorem pS_sq {K : PySem.W.Frag} {xs : List Int} {H : Hp} {v : V} (h : (pS K xs).pr H v) : ∃ a, v = .ref a ∧ SqL K H a (xs.map V.int) ∧ xs.length ≤ sizeLine := by
  obtain ⟨a, e, z, h⟩ := h
  refine ⟨a, e, ?_, z⟩
  rcases h with ⟨o, h⟩ | h
  · exact .inl (.inr ⟨o, h⟩)
  · exact .inr h
theorem pS_of {K : PySem.W.Frag} {xs : List Int} {H : Hp} {v : V} (h : (pL pInt xs).pr H v) : (pS K xs).pr H v := by
  obtain ⟨a, o, vs, e, h, z, p⟩ := h
  rw [paired_ints p] at h
  exact ⟨a, e, z, .inl ⟨o, h⟩⟩
section
variable {X : Cx} {W : Bool} {F : Fm} {Γ : Gm} {Δ : Δs} {γ : Type}
section
variable {a b : Expr} {pos : Pos} {β1 β2 : Type} {T : Option γ} {k1 : β1 → Option γ} {Δ1 : β1 → Δs} {Δ2 : β1 → β2 → Δs} {xs : β1 → List Int} {j : β1 → β2 → Int}
theorem x_ixS {k : (β1 × β2) × Int → Option γ} (ha : PE X a (tE W F Γ Δ T k1 (fun b => pS X.K (xs b)) Δ1)) (hb : ∀ b1, PE X b (tE W F Γ (Δ1 b1) (k1 b1) (fun b2 => (atI (xs b1) (j b1 b2)).bind fun x => k ((b1, b2), x)) (fun b => pInt (j b1 b)) (Δ2 b1)))
    (hs : PlainIx b := by exact fun _ _ => rfl) : PE X (.Subscript a b pos) (tE W F Γ Δ T k (fun b => pInt b.2) fun b => Δ2 b.1.1 b.1.2) :=
  x2p (b_ix ix_list hs) ha hb fun b1 b2 x σ v w H Q ok e hv hw q => by
    obtain ⟨p, ev, sq, _⟩ := pS_sq hv
    obtain ⟨u, eu, pu⟩ := paired_atI (ints_paired (H := H) (xs b1)) e
    exact ⟨p, _, j b1 b2, u, ev, hw, sq, eu, q u pu⟩
end
section
variable {a : Expr} {pos p : Pos} {β : Type} {T : Option γ} {Δ1 : β → Δs} {xs : β → List Int} {k : β → Option γ}
theorem x_lenS (hm : X.mg "len" = none) (ha : PE X a (tE W F Γ Δ T k (fun b => pS X.K (xs b)) Δ1)) (hg : Gl X "len" := by rfl) (hs : starEach [a] X.env = (false, eval a X.env) :: starEach [] X.env := by rfl) : PE X (.Call (.Name "len" p) [a] [] pos) (tE W F Γ Δ T k (fun b => pInt ((xs b).length : Int)) Δ1) :=
  x1t (u_callB call_len_seq hg hm PySem.boot_len (by decide) (by decide) hs) ha fun b σ v H Q ok hv q => by
    obtain ⟨p, ev, sq, _⟩ := pS_sq hv
    rw [ev]
    exact ⟨p, _, rfl, .inl sq, by rw [List.length_map]; exact q _ rfl⟩
end
end
def Sp_S (K : PySem.W.Frag) (Mf : List Int → Option Bool) : Sp := fun vs H Q _ => ∃ (a : Addr) (ns : List Int), vs = [.ref a] ∧ ns.length ≤ sizeLine ∧ SqL K H a (ns.map V.int) ∧ ∃ r, Mf ns = some r ∧ ∀ H', Q (.bl r) H'
theorem fn_S {P : Program} {w : World} {K : PySem.W.Frag} {mg : Str → Option Value} {base : Heap} {x qual : Str} {params : Arguments} {body : List Stmt} {scope : Scope} {dvs : List V} {kws : List (Str × V)} {f : Addr} {fd : FuncData} {N ps : List Str} {k : Nat} {Mf : List Int → Option Bool}
    (FD : FunD K x qual params body scope dvs kws f fd) (S : FnScope N ps scope) (hl : 1 = ps.length)
    (hb : ∀ (cdv : Value) (A : Around) (outer : List Env) (s : Shared) (H : Hp) (E : XK) (hr : Room k (A.deeper (envOfC qual scope s.heap.objs.size f cdv))) (M : List (List Addr)) (a1 : List Int), PSs (cxOf CX0 P w K mg base N qual scope f cdv A outer s H E).nox body
      (tS ⟨H, M⟩ (([pS K a1] : List Pd).map some ++ List.replicate (N.length - 1) none) [] (fF (RF ⟨H, M⟩ (fun _ => []) pBl)) (Mf a1))) : FnOk P w K mg base CX0 (k + 1) f fd ps (Sp_S K Mf) := by
  refine FD.ok S (fun vs H Q E h => ?_) (fun cdv A outer s H vs Q E hr h => ?_)
  · obtain ⟨a, ns, rfl, _⟩ := h
    exact hl
  · obtain ⟨a, ns, rfl, z, sq, r, hM, fin⟩ := h
    have fin' : ∀ M, RF ⟨H, M⟩ (fun _ => []) pBl r Q := fun M v H' _ hv => by
      rw [show v = .bl r from hv]
      exact fin H'
    by_cases hu : H a = some (.lst (ns.map V.int))
    · refine ⟨tS ⟨H, [[a]]⟩ (([pV (.ref a)] : List Pd).map some ++ List.replicate (N.length - 1) none) [⟨.ref a, oL pInt ns, some 0⟩] (fF (RF ⟨H, [[a]]⟩ (fun _ => []) pBl)) (Mf ns), PSs.nox (s_frz (i := 0) (c := ⟨.ref a, oL pInt ns, some 0⟩) 0 ?_), ok_start (Δ := [⟨[a], .ref a, oL pInt ns, some 0⟩]) rfl (.cons rfl .nil) ?_ ?_ ?_, r, hM, fin' _⟩
      · refine (hb cdv A outer s H E hr [[a]] ns).wk fun D σ H' ⟨ok, g, e, q⟩ => ⟨⟨ok.hk, ok.len, fun i p e => ?_⟩, g, e, q⟩
        cases i with
        | zero =>
          cases e
          obtain ⟨v, hs, hv⟩ := ok.gam 0 (pL pInt ns) rfl
          exact ⟨v, hs, pS_of hv⟩
        | succ i => exact ok.gam (i + 1) p e
      · intro c hc
        rw [List.mem_singleton.mp hc]
        exact ⟨a, ns.map V.int, rfl, rfl, hu, z, ints_paired ns⟩
      · exact List.nodup_cons.mpr ⟨by simp, List.nodup_nil⟩
      · intro i c h
        match i, h with
        | 0, h => cases h; rfl
        | _ + 1, h => cases h
    · refine ⟨_, PSs.nox (hb cdv A outer s H E hr [] ns), ok_start (Δ := []) rfl (.cons ⟨a, rfl, z, ?_⟩ .nil) (fun _ h => nomatch h) List.nodup_nil (fun _ _ h => nomatch h), r, hM, fin' _⟩
      rcases sq with (h | ⟨o, h⟩) | h
      · exact absurd h hu
      · exact .inl ⟨o, h⟩
      · exact .inr h
end L3
end
section
set_option maxHeartbeats 4000000
namespace L3
open PySem PySem.Spec PyProof.Rows L2
section
variable {κ α : Type} [DecidableEq κ]
end
section
variable {κ α : Type} [DecidableEq κ] [Ky κ]
end
section
variable {X : Cx} {W : Bool} {F : Fm} {Γ : Gm} {Δ : Δs} {γ : Type} {κ α : Type} [DecidableEq κ] [Ky κ]
section
variable {a b : Expr} {pos : Pos} {β1 β2 : Type} {T : Option γ} {k1 : β1 → Option γ} {Δ1 : β1 → Δs} {Δ2 : β1 → β2 → Δs} {E1 : β1 → Pd} {Ee : α → Pd} {xs : β1 → β2 → List (κ × α)} {j : β1 → β2 → κ}
end
section
variable {a b : Expr} {pos : Pos} {β1 β2 : Type} {T : Option γ} {k1 : β1 → Option γ} {k : β1 × β2 → Option γ} {Δ1 : β1 → Δs} {Δ2 : β1 → β2 → Δs} {E2 : β1 → β2 → Pd} {Ee : α → Pd} {xs : β1 → β2 → List (κ × α)} {i : β1 → κ}
end
end
end L3
end
section
set_option maxHeartbeats 4000000
namespace L3
open PySem PySem.Spec PyProof.Rows L2
section
variable {X : Cx} {W : Bool} {F : Fm} {Γ : Gm} {Δ : Δs} {γ : Type} {κ α : Type} [DecidableEq κ] [Ky κ]
section
variable {e a : Expr} {r : V → Hp → VK → Prop} {β : Type} {T : Option γ} {E1 : β → Pd} {Δ1 : β → Δs}
end
section
variable {a : Expr} {pos p : Pos} {β : Type} {T : Option γ} {Δ1 : β → Δs} {E1 : β → Pd} {Ee : α → Pd} {xs : β → List (κ × α)} {k : β → Option γ}
end
section
variable {N : Fn γ} {rest : List Stmt}
end
end
end L3
end
section
set_option maxHeartbeats 4000000
namespace L3
open PySem PySem.Spec PyProof.Rows L2
section
variable {κ α : Type} [DecidableEq κ] [DecidableEq α]
end
section
variable {X : Cx} {W : Bool} {F : Fm} {Γ : Gm} {Δ : Δs} {γ : Type} {κ α : Type} [DecidableEq κ] [Ky κ] [DecidableEq α]
section
variable {a b : Expr} {pos : Pos} {β1 β2 : Type} {T : Option γ} {k1 : β1 → Option γ} {k : β1 × β2 → Option γ} {Δ1 : β1 → Δs} {Δ2 : β1 → β2 → Δs} {Ee : α → Pd} {E1 : β1 → Pd} {E2 : β1 → β2 → Pd} {xs ys : β1 → β2 → List (κ × α)}
end
end
section
variable {X : Cx} {W : Bool} {F : Fm} {Γ : Gm} {Δ : Δs} {γ : Type}
theorem x_some {a : Expr} {β α : Type} {T : Option γ} {k : β × α → Option γ} {Ee : α → Pd} {x : β → Option α} {Δ1 : β → Δs} (ha : PE X a (tE W F Γ Δ T (fun b => (x b).bind fun y => k (b, y)) (fun b => pOp Ee (x b)) Δ1)) : PE X a (tE W F Γ Δ T k (fun b => Ee b.2) fun b => Δ1 b.1) :=
  ha.wk fun σ H Q ⟨ok, g, e, q⟩ => ⟨ok, g, e, fun b v H' kb f ok' hv => by
    obtain ⟨y, ey, ky⟩ := bind_some kb
    have hv : (pOp Ee (x b)).pr H' v := hv
    rw [ey] at hv
    exact q (b, y) v H' ky f ok' hv⟩
section
variable {a b : Expr} {p pos : Pos} {β1 β2 : Type} {T : Option γ} {k1 : β1 → Option γ} {k : β1 × β2 → Option γ} {Δ1 : β1 → Δs} {Δ2 : β1 → β2 → Δs} {i : β1 → Int} {j : β1 → β2 → Int}
theorem x_min2 (hm : X.mg "min" = none) (ha : PE X a (tE W F Γ Δ T k1 (fun b => pInt (i b)) Δ1)) (hb : ∀ b1, PE X b (tE W F Γ (Δ1 b1) (k1 b1) (fun b2 => k (b1, b2)) (fun b => pInt (j b1 b)) (Δ2 b1))) (hg : Gl X "min" := by rfl) (hs : starEach [a, b] X.env = (false, eval a X.env) :: starEach [b] X.env := by rfl) (hs2 : starEach [b] X.env = (false, eval b X.env) :: starEach [] X.env := by rfl) (hpl : (backTo pos (starEach [b] X.env)).any (·.1) = false := by rfl) (hc : X.calm = true := by rfl) :
    PE X (.Call (.Name "min" p) [a, b] [] pos) (tE W F Γ Δ T k (fun b => pInt (min (i b.1) (j b.1 b.2))) fun b => Δ2 b.1 b.2) :=
  x2t (b_callB (call_min2 hc) hg hm (by decide +kernel) (by decide) (by decide) hs hs2 hpl) ha hb fun b1 b2 σ v w H Q ok hv hw q => ⟨i b1, j b1 b2, by rw [show v = .int (i b1) from hv, show w = .int (j b1 b2) from hw], q _ (by
    show V.int _ = V.int _
    congr 1
    dsimp only
    by_cases h : j b1 b2 < i b1
    · rw [if_pos h, Int.min_def]; split <;> omega
    · rw [if_neg h, Int.min_def, if_pos (by omega)])⟩
end
section
variable {a b : Expr} {p pos : Pos} {β β1 β2 : Type} {T : Option γ} {k1 : β1 → Option γ} {Δ1 : β1 → Δs} {Δ0 : β → Δs} {Δ2 : β1 → β2 → Δs}
theorem x_strI {k : β → Option γ} {i : β → Int} (hm : X.mg "str" = none) (ha : PE X a (tE W F Γ Δ T (fun b => grd ((i b).natAbs.log2 < 1920) (k b)) (fun b => pInt (i b)) Δ0)) (hg : Gl X "str" := by rfl) (hs : starEach [a] X.env = (false, eval a X.env) :: starEach [] X.env := by rfl) : PE X (.Call (.Name "str" p) [a] [] pos) (tE W F Γ Δ T k (fun b => pStr (Str.ofString (toString (i b)))) Δ0) :=
  x1g (u_callTy call_str_int hg hm (by decide +kernel) (by decide) (by decide) hs) ha fun b σ v H Q ok c hv q => ⟨i b, by rw [show v = .int (i b) from hv], c, q _ rfl⟩
end
section
variable {o e : Expr} {apos cpos : Pos} {β1 β2 α : Type} {T : Option γ} {k1 : β1 → Option γ} {Δ1 : β1 → Δs} {Δ2 : β1 → β2 → Δs} {E1 : β1 → Pd} {Ee : α → Pd} {y : β1 → β2 → α}
end
end
end L3
end
section
set_option maxHeartbeats 4000000
namespace L3
open PySem PySem.Spec PyProof.Rows L2
section
variable {X : Cx} {W : Bool} {F : Fm} {Γ : Gm} {Δ : Δs} {γ : Type}
theorem t_T {β : Type} {e : Expr} {T T' : Option γ} {k : β → Option γ} {c : β → Bool} {Δ' : β → Δs} (h : PT X e (tTs W F Γ Δ T' k c Δ')) (hT : T = T') : PT X e (tTs W F Γ Δ T k c Δ') := by rw [hT]; exact h
end
end L3
end
section
set_option maxHeartbeats 4000000
namespace L3
open PySem PySem.Spec PyProof.Rows L2
end L3
end
section
set_option maxHeartbeats 4000000
namespace L3
open PySem PySem.Spec PyProof.Rows L2
def strOk (x : Str) : Bool := PyData.strOk x
def dgStr : Dg pStr := ⟨.str, fun h => by rw [h]; exact .str _, 0, strOk, fun x h => h, fun _ => Nat.le_refl 0, fun x y => by show (x == y) = _; by_cases h : x = y <;> simp [h]⟩
theorem gdp_all {α : Type} {E : α → Pd} [DecidableEq α] (d : Dg E) {K : PySem.W.Frag} {H : Hp} : ∀ {xs : List α} {vs : List V}, Paired (fun x u => (E x).pr H u) xs vs → DpAll K H vs (xs.map d.toD)
  | _, _, .nil => .nil
  | _, _, .cons r t => .cons (d.dp r) (gdp_all d t)
theorem gcan_all {α : Type} {E : α → Pd} [DecidableEq α] (d : Dg E) : ∀ xs : List α, xs.all d.ok = true → PyData.canLayAll0 (xs.map d.toD) = true
  | [], _ => rfl
  | x :: xs, h => by
    rw [List.all_cons] at h
    obtain ⟨h1, h2⟩ := Bool.and_eq_true_iff.mp h
    show (PyData.canLay0 (d.toD x) && PyData.canLayAll0 (xs.map d.toD)) = true
    rw [d.can x h1, gcan_all d xs h2]; rfl
theorem gdeep_all {α : Type} {E : α → Pd} [DecidableEq α] (d : Dg E) : ∀ xs : List α, PyData.depthAll (xs.map d.toD) ≤ d.dep
  | [] => Nat.zero_le _
  | x :: xs => Nat.max_le.mpr ⟨d.deep x, gdeep_all d xs⟩
theorem geqv_all {α : Type} {E : α → Pd} [DecidableEq α] (d : Dg E) : ∀ xs ys : List α, PyData.eqvAll (xs.map d.toD) (ys.map d.toD) = decide (xs = ys)
  | [], [] => rfl
  | [], _ :: _ => rfl
  | _ :: _, [] => rfl
  | x :: xs, y :: ys => by
    show (PyData.eqv (d.toD x) (d.toD y) && PyData.eqvAll (xs.map d.toD) (ys.map d.toD)) = _
    rw [d.eq, geqv_all d xs ys]
    by_cases h : x = y <;> by_cases h2 : xs = ys <;> simp [h, h2]
theorem Dg.sh {α : Type} {E : α → Pd} [DecidableEq α] (d : Dg E) (hd : d.dep < 60) {x : α} (h : d.ok x = true) : SeqAt.shaped (d.toD x) = true := by
  show (PyData.canLay0 (d.toD x) && decide (PyData.depth (d.toD x) ≤ 64)) = true
  rw [d.can x h, decide_eq_true (by have := d.deep x; omega)]; rfl
section
variable {X : Cx} {W : Bool} {F : Fm} {Γ : Gm} {Δ : Δs} {γ : Type} {a b : Expr} {pos : Pos} {β1 β2 α : Type} [DecidableEq α] {T : Option γ} {k1 : β1 → Option γ} {k : β1 × β2 → Option γ} {Δ1 : β1 → Δs} {Δ2 : β1 → β2 → Δs} {Ee : α → Pd} {x : β1 → α} {y : β1 → β2 → α}
def okG (d : Dg Ee) (x y : α) : Bool := d.ok x && d.ok y
theorem x_eqG (d : Dg Ee) (hu : X.A.units + 64 < cLine) (ha : PE X a (tE W F Γ Δ T k1 (fun b => Ee (x b)) Δ1)) (hb : ∀ b1, PE X b (tE W F Γ (Δ1 b1) (k1 b1) (fun b2 => grd (okG d (x b1) (y b1 b2) = true) (k (b1, b2))) (fun b2 => Ee (y b1 b2)) (Δ2 b1))) (hd : d.dep < 60 := by decide) :
    PE X (.Compare a [.Eq] [b] pos) (tE W F Γ Δ T k (fun b => pBl (decide (x b.1 = y b.1 b.2))) fun b => Δ2 b.1 b.2) :=
  x2g (b_cmp (op_eqD hu) (nomark _)) ha hb fun b1 b2 σ v w H Q ok c hv hw q => by
    obtain ⟨c1, c2⟩ := Bool.and_eq_true_iff.mp c
    exact ⟨_, _, d.dp hv, d.dp hw, d.sh hd c1, d.sh hd c2, by rw [d.eq]; exact q _ rfl⟩
end
section
variable {X : Cx} {W : Bool} {F : Fm} {Γ : Gm} {Δ : Δs} {γ : Type}
section
variable {a b : Expr} {pos : Pos} {β1 β2 : Type} {T : Option γ} {k1 : β1 → Option γ} {k : β1 × β2 → Option γ} {Δ1 : β1 → Δs} {Δ2 : β1 → β2 → Δs} {i : β1 → Int} {v0 : V} {xs : β1 → β2 → List Int} {prm : Option Nat}
end
end
end L3
end
section
set_option maxHeartbeats 4000000
namespace L3
open PySem PySem.Spec PyProof.Rows L2
section
variable {X : Cx} {W : Bool} {F : Fm} {Γ : Gm} {Δ : Δs} {γ : Type}
variable {α α2 β β4 β5 δ : Type} {g g2 : TG} {own : List (Str × Nat)} {vs1 : List Nat} {T : Option γ} {k0 : β → Option γ} {k : β × List δ → Option γ} {Ex : α → Pd} {Ex2 : α2 → Pd} {Ee : δ → Pd} {bd : Gm → α → Gm} {bd2 : Gm → α2 → Gm} {xs : β → List α} {C : β → Δs} {f : β → α → Option (List δ)}
    {ys : β → α → β4 → List α2} {h : β → α → β4 → α2 → Option δ} {e : β → α → β4 → α2 → β5 → δ}
theorem x_T {Y : Cx} {β : Type} {Γ : Gm} {Δ : Δs} {γ : Type} {e : Expr} {T T' : Option γ} {k : β → Option γ} {E : β → Pd} {Δ' : β → Δs} (h : PE Y e (tE W F Γ Δ T' k E Δ')) (hT : T = T') : PE Y e (tE W F Γ Δ T k E Δ') := by rw [hT]; exact h
end
end L3
end
section
set_option maxHeartbeats 4000000
namespace L3
open PySem PySem.Spec PyProof.Rows L2
section
variable {κ α : Type} [DecidableEq κ]
end
section
variable {κ α : Type} [DecidableEq κ] [Ky κ]
end
theorem Foc.gr {α : Type} {d : Od} {v : V} {D : α → Od} {x : α} {back : α → Od} {u : V} {H H2 : Hp} (f : Foc d v D x back u H) (g : Gr H H2) : Foc d v D x back u H2 := fun H1 G g1 => f H1 G (g.trans g1)
theorem Foc.id {α : Type} {v : V} {D : α → Od} {x : α} {H : Hp} : Foc (D x) v D x D v H := fun H1 G _ h nd => ⟨G, h, fun _ h => h, nd, fun H' y G2' _ _ nd' _ h' => ⟨G2', h', nd', fun a ha => .inr ha⟩⟩
section
variable {X : Cx} {W : Bool} {F : Fm} {Γ : Gm} {Δ : Δs} {γ : Type}
def tFo {α β : Type} (F : Fm) (Γ : Gm) (Δ : Δs) (T : Option γ) (k : β → Option γ) (v : V) (d : Od) (D : α → Od) (x : β → α) (back : β → α → Od) : TE := fun σ H Q =>
  Ok F Γ Δ σ H ∧ ∃ g, T = some g ∧ ∀ b u H', k b = some g → Gr H H' → Ok F Γ Δ σ H' → Foc d v D (x b) (back b) u H' → Q u H'
theorem f_var {α : Type} {e : Expr} {v : V} {D : α → Od} {x : α} {T : Option γ} {k : Unit → Option γ} (h : PE X e (tE false F Γ Δ T k (fun _ => pV v) fun _ => Δ)) : PE X e (tFo F Γ Δ T k v (D x) D (fun _ => x) fun _ => D) :=
  h.wk fun σ H Q ⟨ok, g, e, q⟩ => ⟨ok, g, e, fun b u H' kb st ok' hu => by
    have hu : u = v := hu
    subst hu
    exact q b u H' kb st.gr ok' Foc.id⟩
theorem Foc.ix {α : Type} {d : Od} {v : V} {D : α → Od} {xs : List α} {back : List α → Od} {u : V} {H : Hp} {m : Nat} {x : α} {p : Addr} {vs : List V} {w : V} (f : Foc d v (oLO D) xs back u H) (hu : u = .ref p) (hp : H p = some (.lst vs)) (hm : xs[m]? = some x) (hw : vs[m]? = some w) : Foc d v D x (fun y => back (xs.set m y)) w H := fun H1 G g1 hd nd => by
  obtain ⟨G2, ⟨p', vs', gs, eg, eu, hp', z, o3⟩, sb, nd2, tr⟩ := f H1 G g1 hd nd
  have eg : G2 = p' :: gs.flatten := eg
  have eu : u = .ref p' := eu
  rw [hu] at eu
  cases eu
  rw [g1 _ _ hp] at hp'
  cases hp'
  subst eg
  obtain ⟨w', g, hvw, hg, pw⟩ := o3.at hm
  rw [hw] at hvw
  cases hvw
  obtain ⟨pG, ndG⟩ := List.nodup_cons.mp nd2
  have sg : ∀ a ∈ g, a ∈ gs.flatten := fun a ha => List.mem_flatten.mpr ⟨g, List.mem_of_getElem? hg, ha⟩
  have ndg : g.Nodup := by
    obtain ⟨A, B, e, _⟩ := at_split hg
    rw [e, List.flatten_append, List.flatten_cons] at ndG
    exact (List.nodup_append.mp (List.nodup_append.mp ndG).2.1).1
  refine ⟨g, pw, fun a ha => sb a (List.mem_cons_of_mem _ (sg a ha)), ndg, fun H' y G3 kp fz nd3 ds h3 => ?_⟩
  have hml : m < xs.length := (List.getElem?_eq_some_iff.mp hm).1
  have nin : ∀ a ∈ G3, a ∈ g ∨ a ∉ gs.flatten := fun a ha => (ds a ha).imp (fun h => h) fun h z => h (sb a (List.mem_cons_of_mem _ z))
  obtain ⟨fs1, fs2⟩ := flat_set hg ndG nd3 nin
  have pg : p ∉ g := fun z => pG (sg p z)
  have pn : p ∉ G3 := fun z => (ds p z).elim pg fun h => h (sb p List.mem_cons_self)
  have vset : vs.set m w = vs := set_self' hw
  obtain ⟨G', hb, nb, mb⟩ := tr H' (xs.set m y) (p :: (gs.set m G3).flatten) (fun a ha na o e => kp a ha (fun z => na (List.mem_cons_of_mem _ (sg a z))) o e) fz (List.nodup_cons.mpr ⟨fun z => (fs2 p z).elim (fun h => pG h.1) pn, fs1⟩) (fun a ha => by
      rcases List.mem_cons.mp ha with e | ha
      · exact .inl (by rw [e]; exact List.mem_cons_self)
      · rcases fs2 a ha with h | h
        · exact .inl (List.mem_cons_of_mem _ h.1)
        · exact (ds a h).imp (fun z => List.mem_cons_of_mem _ (sg a z)) fun h => h) ⟨p, vs, gs.set m G3, rfl, hu, kp p (sb p List.mem_cons_self) pg _ (g1 _ _ hp), by rw [List.length_set]; exact z, by
        rw [← vset]
        exact o3.turnG (y := y) fz h3 ndG (fun a ha na o e => kp a (sb a (List.mem_cons_of_mem _ ha)) na o e) hml hg⟩
  refine ⟨G', hb, nb, fun a ha => ?_⟩
  rcases mb a ha with ⟨h1, h2⟩ | h
  · exact .inl ⟨h1, fun z => h2 (List.mem_cons_of_mem _ (sg a z))⟩
  · rcases List.mem_cons.mp h with e | h
    · exact .inl ⟨by rw [e]; exact sb p List.mem_cons_self, by rw [e]; exact pg⟩
    · rcases fs2 a h with ⟨h1, h2⟩ | h
      · exact .inl ⟨sb a (List.mem_cons_of_mem _ h1), h2⟩
      · exact .inr h
theorem Ok.foc {σ : SS} {H : Hp} {α : Type} {j : Nat} {d : Od} {v : V} {prm : Option Nat} {D : α → Od} {x : α} {back : α → Od} {u : V} (ok : Ok F Γ Δ σ H) (hj : Δ[j]? = some ⟨v, d, prm⟩) (f : Foc d v D x back u H) : ∃ G2, (D x).pr G2 H u := by
  obtain ⟨G, h, nd, _⟩ := ok.cell hj
  obtain ⟨G2, h2, _⟩ := f H G (Gr.refl H) h nd
  exact ⟨G2, h2⟩
theorem Ok.focT {σ : SS} {H : Hp} {α : Type} {j : Nat} {d : Od} {v : V} {prm : Option Nat} {D : α → Od} {x : α} {back : α → Od} {u : V} (ok : Ok F Γ Δ σ H) (hj : Δ[j]? = some ⟨v, d, prm⟩) (f : Foc d v D x back u H) : ∃ G2, (D x).pr G2 H u ∧ G2.Nodup ∧
    ∀ H' y G2', (∀ a o, a ∉ G2 → H a = some o → H' a = some o) → (∀ a ∈ G2, ∃ o, H' a = some o) → Fzs H H' → G2'.Nodup → (∀ a ∈ G2', a ∈ G2 ∨ H a = none) → (D y).pr G2' H' u → Ok F Γ (Δ.set j ⟨v, back y, prm⟩) σ H' ∧ St true H H' := by
  obtain ⟨G, h, nd, tr⟩ := ok.cellG hj
  obtain ⟨G2, h2, sb, nd2, tb⟩ := f H G (Gr.refl H) h nd
  refine ⟨G2, h2, nd2, fun H' y G2' kp dm fz nd' ds h' => ?_⟩
  obtain ⟨G', hb, nb, mb⟩ := tb H' y G2' (fun a _ na o e => kp a o na e) fz nd' (fun a ha => (ds a ha).imp (fun h => h) fun e z => by
    obtain ⟨o, eo, _⟩ := d.cells h a z
    rw [e] at eo
    cases eo) h'
  exact tr H' (back y) G' (fun a o na e => kp a o (fun z => na (sb a z)) e) (fun a ha => by
    by_cases h3 : a ∈ G2
    · exact dm a h3
    · obtain ⟨o, eo, _⟩ := d.cells h a ha
      exact ⟨o, kp a o h3 eo⟩) nb (fun a ha => by
    rcases mb a ha with h1 | h1
    · exact .inl h1.1
    · exact (ds a h1).imp (fun z => sb a z) fun z => z) hb
theorem OkN.focT {H0 : Hp} {σ : SS} {H : Hp} {α : Type} {j : Nat} {d dn : Od} {v w : V} {prm : Option Nat} {D : α → Od} {x : α} {back : α → Od} {u : V} (ok : OkN W F Γ H0 w dn Δ σ H) (hj : Δ[j]? = some ⟨v, d, prm⟩) (f : Foc d v D x back u H) : ∃ G2 Gn, (D x).pr G2 H u ∧ dn.pr Gn H w ∧ (G2 ++ Gn).Nodup ∧
    ∀ H' y G2', (∀ a o, a ∉ G2 → H a = some o → H' a = some o) → (∀ a ∈ G2, ∃ o, H' a = some o) → Fzs H H' → G2'.Nodup → (∀ a ∈ G2', a ∈ G2 ∨ a ∈ Gn) → (D y).pr G2' H' u → Ok F Γ (Δ.set j ⟨v, back y, prm⟩) σ H' ∧ Fzs H H' ∧ ∀ a o, H a = some o → ∃ u, H' a = some u := by
  obtain ⟨G, Gn, h, hn, nd, tr⟩ := ok.absorb hj
  obtain ⟨nd1, nd2, nd3⟩ := List.nodup_append.mp nd
  obtain ⟨G2, h2, sb, ndg, tb⟩ := f H G (Gr.refl H) h nd1
  refine ⟨G2, Gn, h2, hn, List.nodup_append.mpr ⟨ndg, nd2, fun a ha b hb e => nd3 a (sb a ha) b hb e⟩, fun H' y G2' kp dm fz nd' ds h' => ?_⟩
  obtain ⟨G', hb, nb, mb⟩ := tb H' y G2' (fun a _ na o e => kp a o na e) fz nd' (fun a ha => (ds a ha).imp (fun h => h) fun hn z => nd3 a z a hn rfl) h'
  exact tr H' (back y) G' (fun a o na _ e => kp a o (fun z => na (sb a z)) e) (fun a ha => by
    by_cases h3 : a ∈ G2
    · exact dm a h3
    · have : ∃ o, H a = some o := by
        rcases ha with ha | ha
        · obtain ⟨o, eo, _⟩ := d.cells h a ha; exact ⟨o, eo⟩
        · obtain ⟨o, eo, _⟩ := dn.cells hn a ha; exact ⟨o, eo⟩
      obtain ⟨o, eo⟩ := this
      exact ⟨o, kp a o h3 eo⟩) nb (fun a ha => .inl (by
    rcases mb a ha with h1 | h1
    · exact .inl h1.1
    · exact (ds a h1).imp (fun z => sb a z) fun z => z)) hb
end
end L3
end
section
set_option maxHeartbeats 4000000
namespace L3
open PySem PySem.Spec PyProof.Rows L2
section
variable {X : Cx} {W : Bool} {F : Fm} {Γ : Gm} {Δ : Δs} {γ : Type}
section
variable {o i e : Expr} {pos : Pos} {β1 β2 α : Type} {T : Option γ} {k1 : β1 → Option γ} {v : V} {d : Od} {D : α → Od} {prm : Option Nat}
theorem f_ix {k : (β1 × β2) × (Nat × α) → Option γ} {xs : β1 → List α} {back : β1 → List α → Od} {n : β1 → β2 → Int} (j : Nat) (ho : PE X o (tFo F Γ Δ T k1 v d (oLO D) xs back))
    (hi : ∀ b1, PE X i (tE false F Γ Δ (k1 b1) (fun b2 => (ixN (xs b1).length (n b1 b2)).bind fun m => (xs b1)[m]?.bind fun y => k ((b1, b2), (m, y))) (fun b2 => pInt (n b1 b2)) fun _ => Δ)) (hj : Δ[j]? = some ⟨v, d, prm⟩ := by rfl) (hpi : PlainIx i := by exact fun _ _ => rfl) :
    PE X (.Subscript o i pos) (tFo F Γ Δ T k v d D (fun b => b.2.2) fun b y => back b.1.1 ((xs b.1.1).set b.2.1 y)) :=
  (pe_ix ix_list ho (pe_ex hi) hpi).wk fun σ H Q ⟨ok, g, e, q⟩ => ⟨ok, g, e, fun b1 u H1 kb1 g1 ok1 fo => ⟨b1, ok1, g, kb1, fun b2 w H2 kb2 s2 ok2 hw => by
    obtain ⟨m, em, kb2⟩ := bind_some kb2
    obtain ⟨x, ex, kx⟩ := bind_some kb2
    have hw : w = .int (n b1 b2) := hw
    subst hw
    have fo2 := fo.gr s2.gr
    obtain ⟨G2, p, vs, gs, _, eu, hp, z, o3⟩ := ok2.foc hj fo2
    obtain ⟨w', g', hvw, _, _⟩ := o3.at ex
    have hat : atI vs (n b1 b2) = some w' := by
      unfold atI
      rw [← o3.len, em]
      exact hvw
    exact ⟨p, vs, n b1 b2, w', eu, rfl, .inl (.inl hp), hat, q ((b1, b2), (m, x)) w' H2 kx (g1.trans s2.gr) ok2 (fo2.ix eu hp ex hvw)⟩⟩⟩
end
section
variable {o e : Expr} {apos cpos : Pos} {β1 β2 α : Type} {T : Option γ} {k1 : β1 → Option γ} {k : β1 × β2 → Option γ} {v : V} {d : Od} {prm : Option Nat} {xs : β1 → List α} {back : β1 → List α → Od} {y : β1 → β2 → α}
end
theorem Ok.okN {H0 : Hp} {σ : SS} {H : Hp} {w : V} {dn : Od} (ok : Ok F Γ (⟨w, dn, none⟩ :: Δ) σ H) : OkN true F Γ H0 w dn Δ σ H := by
  obtain ⟨⟨Δ0, e, k⟩, n⟩ := ok
  match Δ0, e, k with
  | c1 :: R, e, k =>
    obtain ⟨G1, v1, d1, p1⟩ := c1
    have e' : (⟨v1, d1, p1⟩ : Cell) = ⟨w, dn, none⟩ ∧ R.map Cel.fg = Δ := by simpa [Cel.fg] using e
    obtain ⟨e1, e2⟩ := e'
    cases e1
    exact ⟨R, G1, e2, k, (fun h => nomatch h), n⟩
section
variable {N : Fn γ} {rest : List Stmt} {κ : Type} [DecidableEq κ] [Ky κ]
end
end
end L3
end
section
set_option maxHeartbeats 4000000
namespace L3
open PySem PySem.Spec PyProof.Rows L2
def oF {α : Type} (E : α → Pd) (x : α) : Od where
  pr G H v := G = [] ∧ (E x).pr H v
  pd := E x
  frame := fun ⟨e, h⟩ _ f => ⟨e, (E x).mono f h⟩
  cells := fun ⟨e, _⟩ a ha => by rw [e] at ha; cases ha
  lockd := fun {G H H1 v} ⟨e, h⟩ h1 _ => (E x).mono (fun a o _ ha => by rw [h1 a (by rw [e]; exact List.not_mem_nil)]; exact ha) h
section
variable {X : Cx} {W : Bool} {F : Fm} {Γ : Gm} {Δ : Δs} {γ : Type}
section
variable {κ δ : Type} [DecidableEq κ] [Ky κ]
variable {α β β2 β3 : Type} {g : TG} {own : List (Str × Nat)} {T : Option γ} {k : β × List (κ × δ) → Option γ} {Ex : α → Pd} {D : δ → Od} {bd : Gm → α → Gm} {xs : β → List α} {Δ1 : β → Δs} {f : β → α → Option (κ × δ)} {T2 : β → α → β2 → Option (κ × δ)} {ky : β → α → β2 → κ} {y : β → α → β2 → β3 → δ}
end
end
end L3
end
section
set_option maxHeartbeats 4000000
namespace PySem.SeqAt
open AutoSeq1 (wpAny_loadPart')
open MeetsSeq MeetsSeq2 MeetsSeq3 SeqRoads2
section
variable {prog : Program} {w : World}
end
end PySem.SeqAt
end
section
set_option maxHeartbeats 4000000
namespace L3
open PySem PySem.Spec PyProof.Rows L2
structure De {α : Type} (E : α → Pd) where
  dep : Nat
  ok : α → α → Bool
  eqv : α → α → Bool
  rc : ∀ {X : Cx} {pins : List (Addr × Obj)} {σ : SS} {H : Hp} {s : Shared}, Inv X pins σ H s → ∀ A : Around, A.units + dep < cLine → ∀ x y, ok x y = true → ∀ v u v' u', (E x).pr H v → (E y).pr H u → RelV v v' → RelV u u' → SeqAt.EqP X.prog X.w A.in1 s v' u' (eqv x y)
  same : ∀ (H : Hp) x y v, ok x y = true → (E x).pr H v → (E y).pr H v → eqv x y = true
section
variable {κ α : Type} [DecidableEq κ] [Ky κ]
end
section
variable {α : Type}
end
end L3
end
section
set_option maxHeartbeats 4000000
namespace L3
open PySem PySem.Spec PyProof.Rows L2
section
variable {X : Cx} {W : Bool} {F : Fm} {Γ : Gm} {Δ : Δs} {γ : Type}
section
variable {a b : Expr} {pos : Pos} {β1 β2 α : Type} {T : Option γ} {k1 : β1 → Option γ} {k : β1 × β2 → Option γ} {Δ1 : β1 → Δs} {Δ2 : β1 → β2 → Δs} {Ee : α → Pd} {x : β1 → List α} {y : β1 → β2 → List α}
end
end
end L3
end
section
set_option maxHeartbeats 4000000
set_option autoImplicit true
namespace L3
open PySem PySem.Spec PyProof.Rows L2
section
variable {X : Cx} {W : Bool} {F : Fm} {Γ : Gm} {Δ : Δs} {γ : Type}
section
variable {e a b : Expr} {r : R2} {β1 β2 : Type} {T : Option γ} {k1 : β1 → Option γ} {E1 : β1 → Pd} {E2 : β1 → β2 → Pd} {Δ1 : β1 → Δs} {Δ2 : β1 → β2 → Δs}
end
section
variable {a b : Expr} {pos : Pos} {β1 β2 α : Type} {T : Option γ} {k1 : β1 → Option γ} {k : β1 × β2 → Option γ} {Δ1 : β1 → Δs} {Δ2 : β1 → β2 → Δs} {Ee : α → Pd} {x : β1 → List α} {y : β1 → β2 → List α}
end
section
variable {a b : Expr} {pos : Pos} {β1 β2 α : Type} [DecidableEq α] {T : Option γ} {k1 : β1 → Option γ} {k : β1 × β2 → Option γ} {Δ1 : β1 → Δs} {Δ2 : β1 → β2 → Δs} {Ee : α → Pd} {x : β1 → α} {y : β1 → β2 → α}
end
end
end L3
end
section
set_option maxHeartbeats 2000000
namespace PySem
namespace SxX
open PySem.W PySem.Calls PyProof.Rows PySem.HandSPX
abbrev exR (C t : Addr) (dv : Option Addr) : Obj := { cls := .ref C, dict := dv, data := .fields #[.ref t, .none, .none, .none, .bool false, .none] }
theorem kept_but {K : Frag} {h h' : Heap} {x : Addr} (X : K.In h) (hx : K.lookup x = none) (k : ∀ b o, b ≠ x → h.get? b = some o → h'.get? b = some o) : K.In h' := fun a o e =>
  k a o (fun z => by rw [z, hx] at e; cases e) (X a o e)
theorem ns_but {h h' : Heap} {L x : Addr} {m : Str → Option Value} (hn : h.Ns L m) (hL : L ≠ x) (k : ∀ b o, b ≠ x → h.get? b = some o → h'.get? b = some o) : h'.Ns L m := by
  obtain ⟨oL, es, ep, e, r⟩ := hn
  exact ⟨oL, es, ep, k _ _ hL e, r⟩
theorem lookup_cons (f g : Str) (v : Value) (l : List (Str × Value)) : ((f, v) :: l).lookup g = if g = f then some v else l.lookup g := by
  by_cases h : g = f
  · subst h; rw [if_pos rfl]; simp [List.lookup]
  · rw [if_neg h]
    have : (g == f) = false := by simpa using h
    simp [List.lookup, this]
theorem within_self (l : List (Str × Value)) : Within (fun y => l.lookup y) (l.map (·.1)) := fun y hy => by
  induction l with
  | nil => exact absurd (show (none : Option Value) ≠ none from hy) (fun z => z rfl)
  | cons p l ih =>
    obtain ⟨f, v⟩ := p
    have hy : ((f, v) :: l).lookup y ≠ none := hy
    rw [lookup_cons] at hy
    by_cases e : y = f
    · rw [e]; exact List.mem_cons_self
    · rw [if_neg e] at hy
      exact List.mem_cons_of_mem _ (ih hy)
def Dct (h : Heap) (K : Frag) (x L n : Addr) (dv : Option Addr) (done : List (Str × Value)) : Prop :=
  match dv with
  | none => done = []
  | some dx => h.Ns1 dx (fun y => done.lookup y) ∧ K.lookup dx = none ∧ dx ≠ x ∧ dx ≠ L ∧ n ≤ dx
section
variable {prog : Program} {w : World} {A : Around} {E : Value → Shared → Prop} {K : Frag} {C x L t1 : Addr} {env : Env} {g : Array GenState} {d : Drawn} {os : OsState} {hb : Heap} {m : Str → Option Value} {cd : ClassData}
theorem ldL {M : Model} {s : Shared} {y : Str} {pos : Pos} {v : Value} {Q : Value → Shared → Prop} (hk : env.scope.kind = .function) (hl : env.kindOf y = some .local) (hL : env.locals = L) (hn : s.heap.Ns L m) (hv : m y = some v) (h : Q v s) (hd : (y == ("__debug__" : Str)) = false) :
    wpAny M A (eval (.Name y pos) env) Q E s := wpAny_Name (wpAny_loadName_local hk hl (by rw [hL]; exact hn) hv h) hd
theorem stores_run (hk : env.scope.kind = .function) (hL : env.locals = L) (hself : env.kindOf "self" = some .local) (hms : m "self" = some (.ref x)) (hcl : clsIn K C = some cd) (hm : refsVE cd.mro = true) (hh : cd.hasDict = true) (sa : findIn K (.ref C) "__setattr__" = some (some (.builtin "object.__setattr__")))
    (hnx : K.lookup x = none) (hxL : L ≠ x) : ∀ {st : List Stmt} {fs : List Str}, Stores st fs → ∀ {h : Heap} {tk : Nat} {vs : List Value} {done : List (Str × Value)} {dv : Option Addr} {Q : Flow → Shared → Prop},
    K.In h → h.Ns L m → vs.length = fs.length → (∀ (i : Nat) f v, fs[i]? = some f → vs[i]? = some v → m f = some v) → (∀ f ∈ fs, env.kindOf f = some .local) → (∀ f ∈ fs, findIn K (.ref C) f = some none) → h.get? x = some (exR C t1 dv) → Dct h K x L hb.objs.size dv done →
    done.length + fs.length ≤ 900 → L < h.objs.size → hb.objs.size ≤ h.objs.size → (∀ b o, b ≠ x → hb.get? b = some o → h.get? b = some o) →
    (∀ (h' : Heap) (tk' : Nat) (dv' : Option Addr), (∀ b o, b ≠ x → hb.get? b = some o → h'.get? b = some o) → h'.get? x = some (exR C t1 dv') → Dct h' K x L hb.objs.size dv' ((fs.zip vs).reverse ++ done) → (fs = [] → dv' = dv) → Q .next ⟨h', g, d, tk', os⟩) →
    wpAny (model prog w) A (execs st env) Q E ⟨h, g, d, tk, os⟩
  | _, _, .nil, h, tk, vs, done, dv, Q, X, hn, hl, hv, hloc, hno, hx, hD, hz, hLs, hsz, hkb, hq => by
    refine wpAny_execs_nil (hq h tk dv hkb hx ?_ fun _ => rfl)
    have : vs = [] := List.eq_nil_of_length_eq_zero hl
    subst this
    exact hD
  | _, f :: fs, .cons hdb hS, h, tk, [], done, dv, Q, X, hn, hl, hv, hloc, hno, hx, hD, hz, hLs, hsz, hkb, hq => by cases hl
  | _, f :: fs, .cons hdb hS, h, tk, v :: vs, done, dv, Q, X, hn, hl, hv, hloc, hno, hx, hD, hz, hLs, hsz, hkb, hq => by
    have hfv : m f = some v := hv 0 f v rfl rfl
    have hz2 : done.length + (fs.length + 1) ≤ 900 := by simpa using hz
    refine wpAny_execs_cons (plainObj_wpAny_Assign_Attribute ?_)
    refine ldL hk (hloc f List.mem_cons_self) hL hn hfv (ldL hk hself hL hn hms ?_ (by decide)) hdb
    have next : ∀ (h' : Heap) (tk' : Nat) (dx : Addr), (∀ b o, b ≠ x → hb.get? b = some o → h'.get? b = some o) → K.In h' → h'.Ns L m → h'.get? x = some (exR C t1 (some dx)) → h'.Ns1 dx (fun y => ((f, v) :: done).lookup y) → K.lookup dx = none → dx ≠ x → dx ≠ L → hb.objs.size ≤ dx → L < h'.objs.size → hb.objs.size ≤ h'.objs.size →
        wpAny (model prog w) A (execs _ env) Q E ⟨h', g, d, tk', os⟩ := fun h' tk' dx k1 X' n' x' d' kd dx1 dxL dn L' sz' =>
      stores_run hk hL hself hms hcl hm hh sa hnx hxL hS (done := (f, v) :: done) (dv := some dx) X' n' (by simpa using hl) (fun i f' v' e1 e2 => hv (i + 1) f' v' e1 e2) (fun f' hf => hloc f' (List.mem_cons_of_mem _ hf)) (fun f' hf => hno f' (List.mem_cons_of_mem _ hf)) x' ⟨d', kd, dx1, dxL, dn⟩ (by rw [List.length_cons]; omega) L' sz' k1 fun h2 tk2 dv2 k2 x2 d2 _ => hq h2 tk2 dv2 k2 x2 (by
        rw [List.zip_cons_cons, List.reverse_cons, List.append_assoc]
        exact d2) (fun z => by cases z)
    cases dv with
    | none =>
      have hd0 : done = [] := hD
      refine set_plain X (ox := exR C t1 none) (od := none) ⟨hx, rfl, rfl, trivial⟩ sa ?_
      refine exc_osa X hx hcl hm hh (hno f List.mem_cons_self) fun h' tk' dx k dn dne hx' hn' => ?_
      have kd : K.lookup dx = none := by
        cases e : K.lookup dx with
        | none => rfl
        | some o => exact absurd (Heap.lt_size (X _ _ e)) (Nat.not_lt.mpr dn)
      have dn : h.objs.size ≤ dx := dn
      have h3 : dx < h'.objs.size := by
        obtain ⟨oD, esD, epD, hoD, hdD, _⟩ := hn'.count (Within.cons f v Within.nil)
        exact Heap.lt_size hoD
      have hs : h.objs.size ≤ h'.objs.size := Nat.le_trans dn (Nat.le_of_lt h3)
      refine next h' tk' dx (fun b o hb1 hb2 => k b o hb1 (hkb b o hb1 hb2)) (kept_but X hnx k) (ns_but hn hxL k) hx' ?_ kd dne (fun z => Nat.lt_irrefl _ (Nat.lt_of_lt_of_le hLs (by rw [← z]; exact dn))) (Nat.le_trans hsz dn) (Nat.lt_of_lt_of_le hLs hs) (Nat.le_trans hsz hs)
      have e : (fun y => if y = f then some v else none) = fun y => ((f, v) :: done).lookup y := by
        funext y
        rw [lookup_cons, hd0]
        rfl
      rw [← e]
      exact hn'
    | some dx =>
      obtain ⟨hns, kd, dne, dL, dn⟩ := hD
      have dn : hb.objs.size ≤ dx := dn
      have hw := within_self done
      obtain ⟨oD, esD, epD, hoD, hdD, _⟩ := hns.count hw
      refine set_plain X (ox := exR C t1 (some dx)) (od := some oD) ⟨hx, rfl, rfl, hoD⟩ sa ?_
      refine OEX.osa_old X hx hns hw (by rw [List.length_map]; omega) hcl hm hh (hno f List.mem_cons_self) fun h' tk' k hn' => ?_
      have e : (fun y => if y = f then some v else done.lookup y) = fun y => ((f, v) :: done).lookup y := by
        funext y
        rw [lookup_cons]
      rw [e] at hn'
      have hx' := k x _ (Ne.symm dne) hx
      have L' : L < h'.objs.size := by
        obtain ⟨oL, es, ep, e, r⟩ := hn
        exact Heap.lt_size (k L _ (Ne.symm dL) e)
      have sz' : hb.objs.size ≤ h'.objs.size := by
        have h3 : dx < h'.objs.size := by
          obtain ⟨oD, esD, epD, hoD, hdD, _⟩ := hn'.count (within_self ((f, v) :: done))
          exact Heap.lt_size hoD
        exact Nat.le_trans dn (Nat.le_of_lt h3)
      exact next h' tk' dx (fun b o hb1 hb2 => k b o (fun z => by
        have := Heap.lt_size hb2
        rw [z] at this
        exact Nat.lt_irrefl _ (Nat.lt_of_lt_of_le this dn)) (hkb b o hb1 hb2)) (kept_but X kd k) (ns_but hn (Ne.symm dL) k) hx' hn' kd dne dL dn L' sz'
end
end SxX
end PySem
end
section
set_option maxHeartbeats 2000000
namespace PySem
namespace SxX
open PySem.W PySem.Calls PyProof.Rows PySem.HandSPX
theorem eval_mcall {o : Expr} {name : Str} {apos pos : Pos} {args : List Expr} {env : Env} (hline : (apos.endLine == pos.line) = true) (hform : methodCallForm (args.length + ([] : List Keyword).length) (backTo pos (starEach args env)) (backToKw pos (keywordEach [] env)) = true) :
    eval (.Call (.Attribute o name apos) args [] pos) env = (do
      let ov ← attributeBase o name env (eval o env)
      standAt apos.atName
      let (f, first) ← holding [ov] (getMethod ov name (do return (← importBound o env).getD true))
      callWith pos f first (backTo pos (starEach args env)) []) := by
  rw [arm_eval_Call]
  have hpos : methodCallPos true o env apos pos = pure pos := by unfold methodCallPos; simp [hline]
  unfold methodCall
  rw [hform, hpos]
  simp only [pure_bind]
  rfl
theorem str1_size (v : Value) : [v].length ≤ sizeLine := by
  rw [sizeLine_eq]
  exact (by decide : 1 ≤ 16777216)
theorem zip_rev_lookup : ∀ {ps : List Str} {us : List Value}, ps.Nodup → ∀ (i : Nat) (f : Str) (v : Value), ps[i]? = some f → us[i]? = some v → (ps.zip us).reverse.lookup f = some v
  | [], us, _, i, f, v, h, _ => by simp at h
  | p :: ps, [], _, i, f, v, _, h => by simp at h
  | p :: ps, u :: us, nd, i, f, v, h1, h2 => by
    rw [List.nodup_cons] at nd
    rw [List.zip_cons_cons, List.reverse_cons, List.lookup_append]
    cases i with
    | zero =>
      simp only [List.getElem?_cons_zero, Option.some.injEq] at h1 h2
      subst h1 h2
      have hn : (ps.zip us).reverse.lookup p = none := by
        rw [List.lookup_eq_none_iff]
        intro q hq
        have hq := List.mem_reverse.mp hq
        have := (List.of_mem_zip (show (q.1, q.2) ∈ ps.zip us from hq)).1
        simp only [beq_eq_false_iff_ne, ne_eq, bne_iff_ne, Bool.not_eq_true]
        exact fun e => nd.1 (by rw [e]; exact this)
      rw [hn]
      simp [List.lookup]
    | succ j =>
      rw [zip_rev_lookup nd.2 j f v (by simpa using h1) (by simpa using h2)]
      rfl
section
variable {prog : Program} {w : World} {A : Around} {R : Result → Shared → Prop} {K : Frag} {C fI x t0 : Addr} {ps : List Str} {hb : Heap} {g : Array GenState} {d : Drawn} {tk : Nat} {os : OsState} {mg : Str → Option Value}
theorem bound_call {A : Around} {E : Value → Shared → Prop} {h : Heap} {u t : Addr} {rest : List Value} {Q : Value → Shared → Prop} {nm q : Str} {N : Addr} {bs bm : List Value} {hdct : Bool} {sn : List Str} {sub : List Value} {ab : Bool} {col : Option Bool} {dd : Option Addr} {k0 k1 k2 k3 k5 : Option Value}
    (hC : h.get? C = some (excClassObj nm q C N bs bm hdct sn sub ab col dd k0 k1 k2 k3 k5 "ValueError.__new__")) (hu : h.get? u = some (kxs_mw "ValueError.__init__" x)) (he : h.get? x = some (exR C t none)) (hz : rest.length ≤ sizeLine)
    (hq : ∀ h' t1, (∀ b o, b ≠ x → h.get? b = some o → h'.get? b = some o) → h'.get? x = some (exR C t1 none) → Q .none ⟨h', g, d, tk, os⟩) : wpAny (model prog w) A (call (.ref u) rest) Q E ⟨h, g, d, tk, os⟩ := by
  refine wpAny_call (codeAny_of_tree ?_)
  show wpAny _ A.in1 (callAny (.ref u) ⟨rest, []⟩) _ _ _
  simp only [callAny]
  refine wpAny_bind (wpAny_load hu ?_)
  simp only [kxs_mw, show (Value.type "method-wrapper" == Value.type "method" || Value.type "method-wrapper" == Value.type "builtin_function_or_method" || Value.type "method-wrapper" == Value.type "method-wrapper") = true by decide, if_true]
  refine KFB.if_so (by decide) ?_
  refine wpAny_bind (check_bound_init F.excBase_ValueError.toExcCallFacts hC he rfl ?_)
  refine wpAny_bind (wpAny_pure (wpAny_pure ?_))
  refine ⟨plainId_quiet F.excBase_ValueError.init.plain _, codeAny_builtin F.excBase_ValueError.initEntry ?_⟩
  exact exc_init_tree (cls := .ref C) (t0 := t) (dv := none) (c2 := .none) (c3 := .none) (b4 := .bool false) he hz fun h' k e _ => hq h' _ k e
theorem sx_init (T : SxTxt prog K C fI ps) {vs : List Value} (hl : vs.length = ps.length) (X : K.In hb) (hlim : hb.NoLimit) (G : hb.Ns mainGlobals mg) (hmg : mg "super" = none) (hblt : ∃ mb, hb.Ns builtinsNs mb ∧ ∀ x : Str, x ≠ "__name__" → mb x = bootBuiltins x)
    (hx : hb.get? x = some (excO C t0)) (hnx : K.lookup x = none) (hroom : A.depth < recursionLimit)
    (hq : ∀ (h' : Heap) (tk' : Nat) (t1 : Addr) (dv : Option Addr), (∀ b o, b ≠ x → hb.get? b = some o → h'.get? b = some o) → h'.get? x = some (exR C t1 dv) → Dct h' K x hb.objs.size hb.objs.size dv (ps.zip vs).reverse → (ps = [] → dv = none) → R (.ok (.ret .none)) ⟨h', g, d, tk', os⟩) :
    codeAny (model prog w) A (.call (.ref fI) ⟨.ref x :: vs, []⟩) R ⟨hb, g, d, tk, os⟩ := by
  obtain ⟨oc, od, doc, pm, an, cda, ct, osl, cc, qual, params, ar, text, kk, q0, q1, q2, q3, q4, q5, stores, scope, ccl, cdd, fvs, ccs, file, tf, cl, cld, csl, ho, hcd, hS, hp, har, hcode, hfv, hfile, hline, hcell, hks, hkc, hka, hkps, hkf, hco, hgen, hnc, nd, hbd⟩ := T.fn
  obtain ⟨nm, q, N, bs, bm, sn, sub, ab, col, dd, k0, k1, k2, k3, k5, hC, hbm⟩ := T.cls
  have hcl : clsIn K C = some { name := nm, bases := bs, mro := .ref C :: bm, ns := N, qualname := q, hasDict := true, slotNames := sn, subclasses := sub, abstract := ab, collection := col, hasDel := false } := by unfold clsIn; rw [hC] <;> rfl
  have hlen : (Value.ref x :: vs).length = ps.length + 1 := by rw [List.length_cons, hl]
  have hxs := Heap.lt_size hx
  refine ks_codeAny_call_defAt (binds := (("self" : Str) :: ps).zip (Value.ref x :: vs)) hroom (X _ _ ho) rfl hlim (codeRec_of X hcd) rfl (hbd _ _ hlen) hnc (fun y hy => ?_) (fun h₁ hns hk₁ => ?_) hco hgen hkf
  · have := (List.of_mem_zip (show (y.1, y.2) ∈ _ from hy)).1
    rcases List.mem_cons.mp this with e | e
    · rw [e]; exact hka
    · exact hkps _ e
  have hk1 : ∀ b o, hb.get? b = some o → h₁.get? b = some o := hk₁
  have hL : (hb.objs.size : Addr) ≠ x := Nat.ne_of_gt hxs
  have X1 : K.In h₁ := X.keeps hk1
  have hx1 := hk1 _ _ hx
  have hmself : ((("self" : Str) :: ps).zip (Value.ref x :: vs)).reverse.lookup ("self" : Str) = some (.ref x) := zip_rev_lookup nd 0 _ _ rfl rfl
  have hmf : ∀ (i : Nat) f v, ps[i]? = some f → vs[i]? = some v → ((("self" : Str) :: ps).zip (Value.ref x :: vs)).reverse.lookup f = some v := fun i f v e1 e2 => zip_rev_lookup nd (i + 1) f v e1 e2
  generalize hm : (fun y => ((("self" : Str) :: ps).zip (Value.ref x :: vs)).reverse.lookup y) = m at hns
  have hmself : m "self" = some (.ref x) := by rw [← hm]; exact hmself
  have hmf : ∀ (i : Nat) f v, ps[i]? = some f → vs[i]? = some v → m f = some v := fun i f v e1 e2 => by rw [← hm]; exact hmf i f v e1 e2
  obtain ⟨mb, hb1, hb2⟩ := hblt
  show wpAt _ _ _ (execs _ (ksEnv qual scope hb.objs.size fI (.ref cda) cc)) _ _ _
  refine ks_wpAt_execs_cons (ks_wpAt_Expr_any (ks_wpAt_MethodCall ?_ (eval_mcall hline (by rfl))) (by unfold interactive; simp [hkf]) (by rfl))
  obtain ⟨oD, hD1, hD2⟩ : ∃ oD : Obj, h₁.get? C = some oD ∧ ∃ cd, oD.data = .cls cd := ⟨_, X1 _ _ hC, _, rfl⟩
  obtain ⟨cdD, hD2⟩ := hD2
  refine ks_wpAt_super_base (env := ksEnv qual scope hb.objs.size fI (.ref cda) cc) hks hkc (by decide) rfl (X1 _ _ ho) rfl hp rfl (X1 _ _ hcode) rfl hfv hfile T.top ?_
  refine ks_loadName_global hkf hks (loadGlobal_builtin (env := ksEnv qual scope hb.objs.size fI (.ref cda) cc) (G.keeps hk1) hmg (hb1.keeps hk1) ((hb2 _ (by decide)).trans (by decide +kernel)) ⟨rfl, ?_⟩)
  refine wpAny_loadName_free hkf hkc rfl ⟨_, X1 _ _ hcell, rfl⟩ ?_
  refine wpAny_loadName_local (by exact hkf) (by rw [har]; exact hka) hns (by rw [har]; exact hmself) ?_
  refine ks_wpAny_isType_cls hD1 hD2 ⟨rfl, ?_⟩
  have subCC : Looks (model prog w) h₁ (isSubtype (.ref C) (.ref C)) true := by
    refine looks_mroIn X1 ?_
    unfold mroIn
    rw [hcl]
    simp
  refine ks_wpAny_call_super hD1 hD2 hx1 rfl (fun c e => by cases e) subCC fun h2 hso hk2 => ?_
  have hk02 : ∀ b o, hb.get? b = some o → h2.get? b = some o := fun b o e => hk2 b o (hk1 b o e)
  have X2 : K.In h2 := X1.keeps hk2
  have hx2 := hk2 _ _ hx1
  have hI : Looks (model prog w) h2 (isInstance (.ref x) (.type "ValueError")) true := (show W.InstAt h2 x (excO C t0) C none from ⟨hx2, rfl, rfl, trivial⟩).type.andThen (looks_subIn X2 T.veC)
  have hxC : x ≠ C := ks_ne X2 (show W.InstAt h2 x (excO C t0) C none from ⟨hx2, rfl, rfl, trivial⟩) hcl
  have hsup : alongIn K "__init__" (((Value.ref C :: bm).dropWhile (· != .ref C)).drop 1) = some (some (.builtin "ValueError.__init__")) := by
    have := T.sup
    unfold ks_superIn at this
    rw [hcl] at this
    exact this
  refine kxs_getMethod kxs_ValueError hso (looks_opaque X2 T.opq) (l₀ := .ref C :: bm) (fun A Q E s k q => wpAny_bind ((looks_clsIn X2 hcl) A _ E s k (wpAny_pure q))) rfl X2 hsup hI hxC (by decide) ?_
  have hu3 : (h2.push (kxs_mw "ValueError.__init__" x)).get? h2.objs.size = some (kxs_mw "ValueError.__init__" x) := Heap.get?_push_size _ rfl
  have hk3 : ∀ b o, h2.get? b = some o → (h2.push (kxs_mw "ValueError.__init__" x)).get? b = some o := fun b o e => Heap.get?_push_of_some _ e
  show wpAny _ _ (callWith _ (.ref h2.objs.size) [] _ []) _ _ _
  refine kxs_callWith (i := "ValueError.__init__") (x := x) (by rfl) ?_
  refine evalArgs_plain (spliced_cons (Constant_str (k := kk) (pos := q0) (spliced_nil ⟨hu3, ?_⟩)))
  have hC3 := hk3 _ _ (X2 _ _ hC)
  refine bound_call (t := t0) hC3 hu3 (hk3 _ _ hx2) (str1_size _) fun h5 t1 k5 x5 => ?_
  refine wpAt_of_wpAny ?_
  have k05 : ∀ b o, b ≠ x → hb.get? b = some o → h5.get? b = some o := fun b o e1 e2 => k5 b o e1 (hk3 b o (hk02 b o e2))
  have n5 : h5.Ns hb.objs.size m := by
    obtain ⟨oL, es, ep, e, r⟩ := hns
    exact ⟨oL, es, ep, k5 _ _ hL (hk3 _ _ (hk2 _ _ e)), r⟩
  have L5 : hb.objs.size < h5.objs.size := by
    obtain ⟨oL, es, ep, e, r⟩ := n5
    exact Heap.lt_size e
  refine stores_run (env := ksEnv qual scope hb.objs.size fI (.ref cda) cc) (hb := hb) (L := hb.objs.size) hkf rfl hka hmself hcl (show refsVE (.ref C :: bm) = true from hbm) rfl T.sa hnx hL hS (done := []) (dv := none) (kept_but X hnx k05) n5 hl hmf hkps T.noN x5 rfl (by have := T.few; rw [List.length_nil]; omega) L5 (Nat.le_of_lt L5) k05 fun h' tk' dv' k' x' d' z => ?_
  exact hq h' tk' t1 dv' k' x' (by rw [List.append_nil] at d'; exact d') z
theorem sx_made (T : SxTxt prog K C fI ps) {vs : List Value} (hl : vs.length = ps.length) (X : K.In hb) (hlim : hb.NoLimit) (G : hb.Ns mainGlobals mg) (hmg : mg "super" = none) (hblt : ∃ mb, hb.Ns builtinsNs mb ∧ ∀ x : Str, x ≠ "__name__" → mb x = bootBuiltins x) (hroom : A.depth + 1 < recursionLimit)
    (hq : ∀ (h' : Heap) (tk' : Nat) (e t1 : Addr) (dv : Option Addr), (∀ b o, hb.get? b = some o → h'.get? b = some o) → hb.objs.size ≤ e → h'.get? e = some (exR C t1 dv) → (match dv with | none => ps = [] | some dx => hb.objs.size ≤ dx ∧ dx ≠ e ∧ h'.Ns1 dx (fun y => (ps.zip vs).reverse.lookup y) ∧ ps ≠ []) → R (.ok (.ret (.ref e))) ⟨h', g, d, tk', os⟩) :
    codeAny (model prog w) A (.call (.ref C) ⟨vs, []⟩) R ⟨hb, g, d, tk, os⟩ := by
  obtain ⟨nm, q, N, bs, bm, sn, sub, ab, col, dd, k0, k1, k2, k3, k5, hC, hbm⟩ := T.cls
  have k : ∀ b o, hb.get? b = some o → ((hb.push (kdv_tup vs)).push (excO C hb.objs.size)).get? b = some o := fun b o e => Heap.get?_push_of_some _ (Heap.get?_push_of_some _ e)
  have hget : ((hb.push (kdv_tup vs)).push (excO C hb.objs.size)).get? (hb.objs.size + 1) = some (excO C hb.objs.size) := by heap_get
  have hnx : K.lookup (hb.objs.size + 1) = none := by
    cases e : K.lookup (hb.objs.size + 1) with
    | none => rfl
    | some o =>
      have z : hb.get? (hb.objs.size + 1) = some o := X _ _ e
      exact absurd (Nat.lt_of_succ_lt (Heap.lt_size z)) (Nat.lt_irrefl _)
  have hsz : vs.length ≤ sizeLine := by
    have := T.few
    rw [hl, sizeLine_eq]
    omega
  refine call_own F.excBase_ValueError (fun X => refsVE_contains X bm hbm) (X _ _ hC) (looks_findIn X T.iC) (fun self => bind_fn X self T.tC) hsz ?_
  refine sx_init (hb := (hb.push (kdv_tup vs)).push (excO C hb.objs.size)) T hl (X.keeps k) (hlim.keeps k) (G.keeps k) hmg (by
    obtain ⟨mb, h1, h2⟩ := hblt
    exact ⟨mb, h1.keeps k, h2⟩) hget hnx (by show A.depth + 1 < recursionLimit; exact hroom) fun h' tk' t1 dv k' hx hD hn => ?_
  have old : ∀ b o, hb.get? b = some o → h'.get? b = some o := fun b o e => k' b o (Nat.ne_of_lt (Nat.lt_succ_of_lt (Heap.lt_size e))) (k b o e)
  refine ⟨rfl, hq h' tk' (hb.objs.size + 1) t1 dv old (Nat.le_succ _) hx ?_⟩
  cases dv with
  | none =>
    have hD : (ps.zip vs).reverse = [] := hD
    have hD := List.reverse_eq_nil_iff.mp hD
    rcases List.zip_eq_nil_iff.mp hD with e | e
    · exact e
    · rw [e] at hl
      exact List.eq_nil_of_length_eq_zero hl.symm
  | some dx =>
    obtain ⟨hns, kd, dne, dL, dn⟩ := hD
    have z : hb.objs.size ≤ dx := by
      refine Nat.le_trans ?_ dn
      rw [Heap.size_push, Heap.size_push]
      omega
    exact ⟨z, dne, hns, fun e => by cases hn e⟩
end
end SxX
end PySem
end
section
set_option maxHeartbeats 2000000
set_option autoImplicit true
namespace L2
open PySem PySem.Spec PyProof.Rows PySem.SxX
def tSx (C : Addr) (ps : List Str) (vs : List V) : Hp → XK → Prop := fun H Q => vs.length = ps.length ∧ (ps = [] → Q (.ref C) none H) ∧ (ps ≠ [] → ∀ d, H d = none → Q (.ref C) (some d) (upd H d (.xd (ps.zip vs).reverse)))
theorem relO_app {f : Str} {l l' : List (Str × V)} {m m' : List (Str × Value)} (h1 : RelO (l.lookup f) (m.lookup f)) (h2 : RelO (l'.lookup f) (m'.lookup f)) : RelO ((l ++ l').lookup f) ((m ++ m').lookup f) := by
  rw [List.lookup_append, List.lookup_append]
  cases e1 : l.lookup f with
  | none =>
    cases e2 : m.lookup f with
    | none => exact h2
    | some u => rw [e1, e2] at h1; exact h1.elim
  | some v =>
    cases e2 : m.lookup f with
    | none => rw [e1, e2] at h1; exact h1.elim
    | some u => rw [e1, e2] at h1; exact h1
theorem relO_one {f p : Str} {v : V} {u : Value} (r : RelV v u) : RelO (List.lookup f [(p, v)]) (List.lookup f [(p, u)]) := by
  rw [lookup_put, lookup_cons]
  by_cases e : f = p
  · rw [if_pos e, if_pos e]; exact r
  · rw [if_neg e, if_neg e]; trivial
theorem vals_rev : ∀ {ps : List Str} {vs : List V} {us : List Value}, Vals vs us → ∀ f, RelO ((ps.zip vs).reverse.lookup f) ((ps.zip us).reverse.lookup f)
  | [], _, _, _, f => trivial
  | p :: ps, [], _, .nil, f => trivial
  | p :: ps, v :: vs, u :: us, .cons r t, f => by
    rw [List.zip_cons_cons, List.zip_cons_cons, List.reverse_cons, List.reverse_cons]
    exact relO_app (vals_rev t f) (relO_one r)
section
variable {X : Cx} {C fI : Addr} {ps : List Str} {x : Str} {p pos : Pos} {k : Nat}
theorem sx_mkP {pins : List (Addr × Obj)} {σ : St} {H1 : Hp} {Q : XK} {hp : Heap} {g : Array GenState} {dr : Drawn} {tk : Nat} {os : OsState} {vs : List V} {us : List Value} (T : SxTxt X.prog X.K C fI ps) (gS : X.mg "super" = none) (hr : Room k X.A) (I1 : Inv X pins σ H1 ⟨hp, g, dr, tk, os⟩) (r : Vals vs us) (q : tSx C ps vs H1 Q) :
    wpAny (model X.prog X.w) X.A (call (.ref C) us) (MkP X pins σ Q) X.xe ⟨hp, g, dr, tk, os⟩ := by
  have hlim := I1.nolimit
  obtain ⟨hl, q0, q1⟩ := q
  have hlu : us.length = ps.length := by rw [← r.length, hl]
  refine wpAny_call (sx_made T hlu I1.kIn hlim (I1.mod.glob.keeps I1.bk) gS (by
    obtain ⟨mb, h1, h2⟩ := I1.mod.blt
    exact ⟨mb, h1.keeps I1.bk, h2⟩) (by have := hr.dp; omega) fun h' tk' e t1 dv keep new hoe hD => ?_)
  show MkP X pins σ Q (.ref e) ⟨h', g, dr, tk', os⟩
  obtain ⟨G', g1, g2⟩ := restrict h' fun b => decide (b ≠ e)
  have gk : ∀ b, b ≠ e → G'.get? b = h'.get? b := fun b hb => g1 b (decide_eq_true hb)
  have ge : G'.get? e = none := g2 e (by simp)
  have old : ∀ b o, hp.get? b = some o → G'.get? b = some o := fun b o q => (gk b (Nat.ne_of_lt (Nat.lt_of_lt_of_le (Heap.lt_size q) new))).trans (keep b o q)
  have back : ∀ b o, G'.get? b = some o → h'.get? b = some o := fun b o q => by
    by_cases hb : b = e
    · rw [hb, ge] at q; cases q
    · exact (gk b hb).symm.trans q
  cases dv with
  | none =>
    have e0 : ps = [] := hD
    have J : Inv X pins σ H1 ⟨G', g, dr, tk', os⟩ := I1.kept old
    exact ⟨e, _, _, ⟨G', g, dr, tk', os⟩, H1, .ref C, none, rfl, J, back, ge, hoe, ⟨rfl, rfl⟩, rfl, rfl, I1.hok.fresh new, rfl, I1.bare, raises_own T.exC T.tyC, q0 e0⟩
  | some d =>
    obtain ⟨dbig, dne, hns, ne⟩ := hD
    have ob : ObjOk X.prog X.w (upd H1 d (.xd (ps.zip vs).reverse)) G' d (.xd (ps.zip vs).reverse) := ⟨_, hns.at (fun o q => (gk d dne).trans q), fun f => vals_rev r f⟩
    have J : Inv X pins σ (upd H1 d (.xd (ps.zip vs).reverse)) ⟨G', g, dr, tk', os⟩ := I1.laid (t' := tk') old dbig ob
    exact ⟨e, _, _, ⟨G', g, dr, tk', os⟩, _, .ref C, some d, rfl, J, back, ge, hoe, ⟨rfl, rfl⟩, rfl, rfl, by rw [upd_ne (Ne.symm dne)]; exact I1.hok.fresh new, rfl, I1.bare, raises_own T.exC T.tyC, q1 ne d (I1.hok.fresh dbig)⟩
def tMkSx (C : Addr) (ps : List Str) (ta : TA) : St → Hp → XK → Prop := fun σ H Q => ta σ H fun vs H1 => tSx C ps vs H1 Q
theorem pmk_sx {e : Expr} {es : List Expr} {ta : TA} (T : SxTxt X.prog X.K C fI ps) (gC : X.mg x = some (.ref C)) (gS : X.mg "super" = none) (hr : Room k X.A) (ha : PA X (e :: es) ta) (hg : Gl X x := by rfl) (hdb : (x == ("__debug__" : Str)) = false := by decide)
    (he : starEach (e :: es) X.env = (false, eval e X.env) :: starEach es X.env := by rfl) (hpl : (backTo pos (starEach es X.env)).any (·.1) = false := by rfl) :
    PMk X (.Call (.Name x p) (e :: es) [] pos) (tMkSx C ps ta) := by
  intro pins s σ H Q I h
  refine wpAny_Call_Name_kw (ld_glob I hg gC ?_ hdb)
  refine PySem.W.callWith_K (h₀ := X.base) I.ok.mod.kin T.kC (thn (ha.run pos pins s σ H _ I h) fun us s1 hh => ?_) he hpl
  obtain ⟨vs, H1, I1, r1, q1⟩ := hh
  refine ⟨I1.kIn, ?_⟩
  obtain ⟨hp, g, dr, tk, os⟩ := s1
  exact sx_mkP T gS hr I1 r1 q1
theorem pmk_sx0 (T : SxTxt X.prog X.K C fI ps) (gC : X.mg x = some (.ref C)) (gS : X.mg "super" = none) (hr : Room k X.A) (hg : Gl X x := by rfl) (hdb : (x == ("__debug__" : Str)) = false := by decide) :
    PMk X (.Call (.Name x p) [] [] pos) (fun _ H Q => tSx C ps [] H Q) := by
  intro pins s σ H Q I h
  refine wpAny_Call_Name_kw (ld_glob I hg gC ?_ hdb)
  refine PySem.W.callWith_K0 I.kIn T.kC ?_
  obtain ⟨hp, g, dr, tk, os⟩ := s
  exact sx_mkP T gS hr I .nil h
end
end L2
end
section
set_option maxHeartbeats 4000000
set_option autoImplicit true
namespace L3
open PySem PySem.Spec PyProof.Rows L2 PySem.SxX
def exC (C : Addr) (ps : List Str) (pds : List Pd) (cls : Value) (d : Option Addr) (H : Hp) : Prop :=
  cls = .ref C ∧ ((ps = [] ∧ d = none) ∨ (ps ≠ [] ∧ ∃ dd vs, d = some dd ∧ H dd = some (.xd (ps.zip vs).reverse) ∧ Paired (fun p v => Pd.pr p H v) pds vs))
theorem exC_mono {C : Addr} {ps : List Str} {pds : List Pd} {cls : Value} {d : Option Addr} {H H' : Hp} (f : Fzs H H') (h : exC C ps pds cls d H) : exC C ps pds cls d H' := by
  obtain ⟨e, h | ⟨ne, dd, vs, ed, hd, p⟩⟩ := h
  · exact ⟨e, .inl h⟩
  · exact ⟨e, .inr ⟨ne, dd, vs, ed, f _ _ trivial hd, paired_mono (fun p v q => p.mono f q) p⟩⟩
theorem xOut.mono {ε : Type} {Kx : Xk ε} {F : Fm} {Δx : Δs} {Nx : SS → Hp → Prop} {Wx : WX} {e : ε} {H H1 : Hp} (h : xOut Kx F Δx Nx Wx e H) (f : Fzs H H1) : xOut Kx F Δx Nx Wx e H1 := fun cls d σ H' f' => h cls d σ H' (f.trans f')
def fX {ε τ : Type} (Kx : Xk ε) (Tf : Fn τ) (F : Fm) (Δx : Δs) (Nx : SS → Hp → Prop) (Wx : WX) : Fn (Except ε τ) := ⟨fun H g D => match g with | .ok t => Tf.fin H t D | .error e => xOut Kx F Δx Nx Wx e H, fun {H H' g D} h f => by
  cases g with
  | ok t => exact Tf.mono h f
  | error e => exact xOut.mono h f⟩
theorem ins_X {ε τ : Type} {Kx : Xk ε} {Tf : Fn τ} {F : Fm} {Δx : Δs} {Nx : SS → Hp → Prop} {Wx : WX} (h : Ins Tf) : Ins (fX Kx Tf F Δx Nx Wx) := fun H g D n q => by
  cases g with
  | ok t => exact h H t D n q
  | error e => exact q
theorem ex_X {ε τ : Type} {Kx : Xk ε} {Tf : Fn τ} {F : Fm} {Δx : Δs} {Nx : SS → Hp → Prop} {Wx : WX} : Ex (fX Kx Tf F Δx Nx Wx) (Except.error (α := τ)) Kx F Δx Nx Wx := fun _ _ _ h => h
theorem ex_B {ε S τ : Type} {Kx : Xk ε} {Tf : Fn τ} {ιx : ε → τ} {C : S → Cxt} {F : Fm} {Δx : Δs} {Nx : SS → Hp → Prop} {Wx : WX} (h : Ex Tf ιx Kx F Δx Nx Wx) : Ex (fB F C Tf) (fun e => Bo.tm (ιx e)) Kx F Δx Nx Wx := fun H e D q => h H e D q
section
variable {X : Cx} {W : Bool} {F : Fm} {Γ : Gm} {Δ : Δs} {γ ε : Type} {Kx : Xk ε} {N : Fn γ} {ιx : ε → γ} {Δx : Δs} {Nx : SS → Hp → Prop} {Wx : WX} {k : Nat} {C fI : Addr} {ps : List Str} {x : Str} {p pos pos2 : Pos}
theorem s_raise {e : Expr} {es : List Expr} {β : Type} {T : Option γ} {pds : β → List Pd} {er : β → ε} {Δ' : β → Δs} (tk : Takes X Wx) (hN : Ex N ιx Kx F Δx Nx Wx) (Tx : SxTxt X.prog X.K C fI ps) (gC : X.mg x = some (.ref C)) (gS : X.mg "super" = none) (hr : Room k X.A)
    (ha : PA X (e :: es) (tAr true F Γ Δ T (fun b => some (ιx (er b))) pds Δ')) (hx : ∀ b cls d H, exC C ps (pds b) cls d H → Kx.ok (er b) cls d H) (hl : ∀ b, (pds b).length = ps.length) (ne : ps ≠ []) (hΔ : ∀ b, Δx.Sublist (Δ' b)) (hNx : ∀ σ H, Nm Γ σ H → Nx σ H) (hc : X.calm = true := by rfl) (hg : Gl X x := by rfl) (hdb : (x == ("__debug__" : Str)) = false := by decide)
    (he : starEach (e :: es) X.env = (false, eval e X.env) :: starEach es X.env := by rfl) (hpl : (backTo pos (starEach es X.env)).any (·.1) = false := by rfl) :
    PSs X [.Raise (some (.Call (.Name x p) (e :: es) [] pos)) none pos2] (tS F Γ Δ N T) :=
  (pss_one (ps_raise hc tk (pmk_sx Tx gC gS hr ha hg hdb he hpl))).wk fun D σ H ⟨ok, g, e, f⟩ => ⟨ok, g, e, fun b vs H1 kb st ok1 pv => by
    have eg : ιx (er b) = g := Option.some.inj kb
    rw [← eg] at f
    refine ⟨by rw [← paired_len pv, hl], fun z => absurd z ne, fun _ d nd => ?_⟩
    have gr : Gr H1 (upd H1 d (.xd (ps.zip vs).reverse)) := Gr.new nd
    exact hN _ _ D f _ _ σ _ (st.fz.trans gr.fzs) ((ok1.hk.gr gr).less (hΔ b)) (hNx _ _ (ok1.nm.mono gr.fzs)) (hx b _ _ _ ⟨rfl, .inr ⟨ne, d, vs, rfl, upd_same, paired_mono (fun p v q => p.mono gr.fzs q) pv⟩⟩)⟩
theorem s_raise0 {T : Option γ} {er : ε} (tk : Takes X Wx) (hN : Ex N ιx Kx F Δx Nx Wx) (Tx : SxTxt X.prog X.K C fI []) (gC : X.mg x = some (.ref C)) (gS : X.mg "super" = none) (hr : Room k X.A) (hT : T = some (ιx er))
    (hx : ∀ cls d H, exC C [] [] cls d H → Kx.ok er cls d H) (hΔ : Δx.Sublist Δ) (hNx : ∀ σ H, Nm Γ σ H → Nx σ H) (hc : X.calm = true := by rfl) (hg : Gl X x := by rfl) (hdb : (x == ("__debug__" : Str)) = false := by decide) :
    PSs X [.Raise (some (.Call (.Name x p) [] [] pos)) none pos2] (tS F Γ Δ N T) :=
  (pss_one (ps_raise hc tk (pmk_sx0 Tx gC gS hr hg hdb))).wk fun D σ H ⟨ok, g, e, f⟩ => by
    have eg : ιx er = g := Option.some.inj (hT.symm.trans e)
    rw [← eg] at f
    exact ⟨rfl, fun _ => hN _ _ D f _ _ σ H (Fzs.refl H) (ok.hk.less hΔ) (hNx _ _ ok.nm) (hx _ _ _ ⟨rfl, .inl ⟨rfl, rfl⟩⟩), fun z => absurd rfl z⟩
def tEX {β : Type} (W : Bool) (F : Fm) (Γ : Gm) (Δ : Δs) (T : Option γ) (k : β → Option γ) (E : β → Pd) (Δ' : β → Δs) (ιx : ε → γ) (Kx : Xk ε) (Wx : WX) : TE := fun σ H Q =>
  Ok F Γ Δ σ H ∧ ∃ g, T = some g ∧ (∀ b v H', k b = some g → St W H H' → Ok F Γ (Δ' b) σ H' → (E b).pr H' v → Q v H') ∧ ∀ e, g = ιx e → ∀ cls d H', St W H H' → Ok F Γ Δ σ H' → Kx.ok e cls d H' → Wx cls d σ H'
def wE (E : XK) : WX := fun cls d _ H => E cls d H
def okx {ε ρ : Type} : Except ε ρ → Option ρ
  | .ok r => some r
  | .error _ => none
def xK {ε ρ γ : Type} (ιx : ε → γ) (k : ρ → Option γ) : Except ε ρ → Option γ
  | .ok r => k r
  | .error e => some (ιx e)
section
variable {f : Addr} {fd : FuncData} {kk : Nat} {α ρ β : Type} {A : α → List Pd} {Mf : α → Option (Except ε ρ)} {xs : β → α} {T : Option γ} {e : Expr} {es : List Expr}
theorem takes_no : Takes X (fun _ _ _ _ => False) := fun _ _ ⟨_, _, _, _, _, _, _, _, _, _, _, _, _, _, _, _, w⟩ => w.elim
end
section
variable {rest : List Stmt} {β : Type} {T : Option γ} {kc : β → Option γ} {Δ' : β → Δs} {e : Expr}
theorem s_letX {i : Nat} {y : Str} {pos' : Pos} {α : Type} {val : β → α} {k2 : β → α → Option γ} (E0 : α → Pd) (nd : X.N.Nodup) (he : PE X e (tEX true F Γ Δ T (fun b => (some (val b)).bind (k2 b)) (fun b => E0 (val b)) Δ' ιx Kx Wx)) (hN : Ex N ιx Kx F Δx Nx Wx) (hΔ : Δx.Sublist Δ) (hNx : ∀ σ H, Nm Γ σ H → Nx σ H)
    (hr : ∀ b a, PSs X rest (tS F (Γ.set i (some (E0 a))) (Δ' b) N (k2 b a))) (hi : X.N[i]? = some y := by rfl) (hx : Loc X.env.scope y := by first | exact .inl rfl | exact .inr rfl)
    (hs : swapsWith e (some (.Name y pos')) pos.line X.env = pure false := by rfl) (hf : X.fn y = true ∨ X.env.scope.names.lookup y = some .local := by first | exact .inl rfl | exact .inr rfl | assumption) :
    PSs X (.Assign [.Name y pos'] e pos :: rest) (tS F Γ Δ N T) :=
  (pss_cons (ps_set nd hi hx he hs hf) (pss_ex fun b => hr b (val b))).wk fun D σ H ⟨ok, g, e, f⟩ => ⟨ok, g, e, fun b v H' kb fz ok' hv => ⟨b, ok'.set hv, g, kb, N.mono f fz.fz⟩, fun er eg cls d H' st ok' hx => by
    subst eg
    exact hN _ _ D f cls d σ H' st.fz (ok'.hk.less hΔ) (hNx _ _ ok'.nm) hx⟩
end
end
end L3
end
section
set_option maxHeartbeats 4000000
set_option autoImplicit true
namespace L3
open PySem PySem.Spec PyProof.Rows L2 PySem.SxX
def pExc {ε : Type} (Kx : Xk ε) (a : Addr) (cls : Value) (d : Option Addr) (e : ε) : Pd := ⟨fun H v => v = .ref a ∧ Kx.ok e cls d H, fun f h => ⟨h.1, Kx.mono f h.2⟩⟩
def tryK {S τ ε γ : Type} (k2 : S → Option γ) (ι : τ → γ) (m : ε → Bool) (TS : ε → Option (Bo S τ)) (Ke : ε → Option γ) : Bo S (Except ε τ) → Option γ
  | .nx s => k2 s
  | .tm (.ok t) => some (ι t)
  | .tm (.error e) => if m e = true then (TS e).bind (boK k2 ι) else Ke e
def Ends.un (D : Ends) (i : Nat) : Ends := { nx := fun σ' H' => D.nx (σ'.set i none) H', rt := D.rt, bk := fun σ' H' => D.bk (σ'.set i none) H', ct := fun σ' H' => D.ct (σ'.set i none) H' }
def Uns {τ : Type} (i : Nat) (Tf : Fn τ) : Prop := ∀ H t D, Tf.fin H t D → Tf.fin H t (Ends.un D i)
theorem uns_F {ρ : Type} {i : Nat} (R : Rt ρ) : Uns i (fF R) := fun _ _ _ h => h
theorem Ok.unset {F : Fm} {Γ : Gm} {Δ : Δs} {σ : SS} {H : Hp} {i : Nat} (k : Ok F Γ Δ σ H) (h : Γ[i]? = some none) : Ok F Γ Δ (σ.set i none) H :=
  ⟨k.hk, by rw [List.length_set]; exact k.len, fun j q e => by
    have hj : j ≠ i := fun z => by rw [z, h] at e; cases e
    rw [List.getElem?_set_ne (fun z => hj z.symm)]
    exact k.gam j q e⟩
section
variable {X : Cx} {W : Bool} {F : Fm} {Γ : Gm} {Δ : Δs} {γ ε : Type} {Kx : Xk ε}
theorem s_try_as {S τ : Type} {N : Fn γ} {Tf : Fn τ} {ι : τ → γ} {i : Nat} {x n : Str} {c : Value} {body suite rest : List Stmt} {b₀ : Stmt} {np pos pos' : Pos} {Wout : WX} {T : Option γ} {TB : Option (Bo S (Except ε τ))} {k2 : S → Option γ} {m : ε → Bool} {TS : ε → Option (Bo S τ)} {Ke : ε → Option γ}
    (C : S → Cxt) (Γx : Gm) (Δx : Δs) (hN : X.N.Nodup) (hc : Names X x c) (tk : Takes X Wout) (hm : ∀ e cls d H, Kx.ok e cls d H → PySem.W.exmOne X.K cls c = some (m e))
    (hT : T = TB.bind (tryK k2 ι m TS Ke))
    (hb : ∀ (W : WX) (pn : List (Addr × Obj)) (xe : Value → Shared → Prop), Takes (X.tr pn xe) W → PassesOwn (model X.prog X.w) X.A X.env xe → PSs (X.tr pn xe) body (tS F Γ Δ (fB F C (fX Kx Tf F Δx (Nm Γx) W)) TB))
    (hsu : ∀ (a : Addr) (oe : Obj) (cls : Value) (d : Option Addr) (pn : List (Addr × Obj)), Zc cls d oe → (∃ vs, oe.data = .fields vs) → ∀ e, PSs (X.suite a ((a, oe) :: pn)) (b₀ :: suite) (tS F (Γx.set i (some (pExc Kx a cls d e))) Δx (fB F C Tf) (TS e)))
    (hr : ∀ s, PSs X rest (tS F (C s).1 (C s).2 N (k2 s))) (hι : ∀ H t D, N.fin H (ι t) D → Tf.fin H t D) (hI : Ins Tf) (hU : Uns i Tf) (hCi : ∀ s, (C s).1[i]? = some none) (hE : ∀ e g H D, m e = false → Ke e = some g → N.fin H g D → xOut Kx F Δx (Nm Γx) Wout e H)
    (hs : X.stack = X.env :: X.outer := by rfl) (hf : X.env.frame = some X.env.locals := by rfl) (hi : X.N[i]? = some n := by rfl) (hln : X.env.kindOf n = some .local := by rfl) :
    PSs X (.Try body [.ExceptHandler (some (.Name x np)) (some n) (b₀ :: suite) pos'] [] [] pos :: rest) (tS F Γ Δ N T) :=
  (pss_cons (ps_try_as hs hf hN hi hln hc tk (tb := fun W => tS F Γ Δ (fB F C (fX Kx Tf F Δx (Nm Γx) W)) TB) hb (ts := fun a cls d D σ H => ∃ e, tS F (Γx.set i (some (pExc Kx a cls d e))) Δx (fB F C Tf) (TS e) D σ H) fun a oe cls d pn hz hf => pss_ex fun e => hsu a oe cls d pn hz hf e) (pss_ex hr)).wk fun D σ H ⟨ok, g, e, f⟩ => by
    rw [hT] at e
    obtain ⟨o, eo, ko⟩ := bind_some e
    refine ⟨ok, o, eo, ?_⟩
    cases o with
    | nx s => exact fun σ' H' fz ok' => ⟨s, ok', g, ko, N.mono f fz⟩
    | tm t =>
      cases t with
      | ok t =>
        have eg : ι t = g := Option.some.inj ko
        subst eg
        exact hI _ _ _ _ (hι _ _ D f)
      | error er =>
        intro cls d σ' H' fz hk nm hx
        have ko : (if m er = true then (TS er).bind (boK k2 ι) else Ke er) = some g := ko
        refine ⟨m er, hm er cls d H' hx, fun hmt a na => ?_, fun hmf => ?_⟩
        · rw [if_pos hmt] at ko
          obtain ⟨o2, eo2, ko2⟩ := bind_some ko
          refine ⟨er, (show Ok F Γx Δx σ' H' from ⟨hk, nm⟩).set (p := pExc Kx a cls d er) ⟨rfl, hx⟩, o2, eo2, ?_⟩
          cases o2 with
          | nx s => exact fun σ2 H2 fz2 ok2 => ⟨s, ok2.unset (hCi s), g, ko2, N.mono f (fz.trans fz2)⟩
          | tm t =>
            have eg : ι t = g := Option.some.inj ko2
            subst eg
            exact hU _ _ _ (hI _ _ _ _ (hι _ _ D (N.mono f fz)))
        · rw [hmf, if_neg Bool.false_ne_true] at ko
          exact hE er g H D hmf ko f cls d σ' H' fz hk nm hx
end
def rIsX (K : PySem.W.Frag) (a : Addr) (cls : Value) (d : Option Addr) : List V → Hp → VK → Prop := fun xs H Q => ∃ (D : Addr) (c : V) (b : Bool), xs = [.ref a, c] ∧ cls = .ref D ∧ ExcC K D ∧ (d = none ∨ ∃ dd fs, d = some dd ∧ H dd = some (.xd fs)) ∧
  ((∃ cv, ClsV c cv ∧ PySem.W.kitOne K (.ref D) cv = some b) ∨ ∃ tp cs us, c = .ref tp ∧ H tp = some (.tup cs) ∧ Paired ClsV cs us ∧ PySem.W.kitAny K (.ref D) us = some b) ∧ Q (.bl b) H
theorem call_isX {X : Cx} {a : Addr} {oe : Obj} {cls : Value} {d : Option Addr} {pn : List (Addr × Obj)} (hz : Zc cls d oe) (hf : ∃ vs, oe.data = .fields vs) : CallR (X.suite a ((a, oe) :: pn)) (.builtin "isinstance") (rIsX X.K a cls d) := by
  intro pins s σ H xs us Q I r h
  obtain ⟨D, c, b, rfl, rfl, C, hd, hk, q⟩ := h
  obtain ⟨u1, u2, rfl, r1, r2⟩ := vals2 r
  cases (show u1 = Value.ref a from r1)
  obtain ⟨hget, _⟩ := I.pin (a, oe) (List.mem_append.mpr (.inl List.mem_cons_self))
  obtain ⟨vs, hv⟩ := hf
  obtain ⟨od, J⟩ : ∃ od, PySem.W.InstAt s.heap a oe D od := by
    rcases hd with e | ⟨dd, fs, e, ed⟩
    · refine ⟨none, hget, hz.1, by unfold PySem.W.notCls; rw [hv] <;> rfl, by rw [hz.2, e]; exact trivial⟩
    · obtain ⟨mA, hns, _⟩ := (show ObjOk X.prog X.w H s.heap dd (.xd fs) from I.hok dd _ ed)
      obtain ⟨oD, ho, _⟩ := lookIn_ns hns
      exact ⟨some oD, hget, hz.1, by unfold PySem.W.notCls; rw [hv] <;> rfl, by rw [hz.2, e]; exact ho⟩
  have Z := PySem.W.kitx_exc (K := X.K) (x := a) (ox := oe) (od := od) (C := D) (by obtain ⟨cd, hc, _⟩ := PySem.W.any_some C.hd; rw [hc]; rfl) C.hg C.hk C.hs C.ha C.hn C.ht C.hm
  rcases hk with ⟨cv, k, e⟩ | ⟨tp, cs, us, rfl, hT, k, e⟩
  · cases k.eq r2
    exact PySem.W.kia_one Z I.kIn J e (fun z => nomatch z) fun tk => ⟨.bl b, H, I.kept (t' := tk) fun _ _ z => z, rfl, q⟩
  · cases (show u2 = Value.ref tp from r2)
    obtain ⟨_, its, rv, o, h1, h2, n, h3⟩ := (show ObjOk X.prog X.w H s.heap tp (.tup cs) from I.hok tp _ hT)
    have e3 := ClsV.all k rv
    subst e3
    obtain ⟨oc, od, dt, sl⟩ := o
    simp only at h2 h3
    subst h2 h3
    exact PySem.W.kia_tup Z I.kIn J h1 e (fun z => nomatch z) fun tk => ⟨.bl b, H, I.tok tk, rfl, q⟩
def FV.int? : FV → Option Int
  | .int x => some x
  | _ => none
theorem fields_nd (c : Str) : (fieldsOf c).Nodup := by
  have h : ∀ p ∈ fieldTab, p.2.Nodup := by decide +kernel
  unfold fieldsOf
  cases e : fieldTab.lookup c with
  | none => exact List.nodup_nil
  | some l =>
    have : ∀ {t : List (Str × List Str)}, t.lookup c = some l → ∃ p ∈ t, p.2 = l := by
      intro t
      induction t with
      | nil => intro h; cases h
      | cons p t ih =>
        intro h
        obtain ⟨a, b⟩ := p
        rw [List.lookup_cons] at h
        split at h
        · cases h; exact ⟨_, List.mem_cons_self, rfl⟩
        · obtain ⟨q, hq, e⟩ := ih h
          exact ⟨q, List.mem_cons_of_mem _ hq, e⟩
    obtain ⟨p, hp, e2⟩ := this e
    rw [← e2]
    exact h p hp
def clsW (mg : Str → Option Value) (x : Str) : V := match mg x with
  | some (.ref a) => .ref a
  | _ => .ty "ValueError"
theorem cls_VU (mg : Str → Option Value) (x : Str) : ClsV (clsW mg x) (clsU mg x) := by
  unfold clsW clsU
  split
  · exact .own _
  · exact .ty _
def erX (mg : Str → Option Value) (rs : List Str) : Xk Er := ⟨fun e cls d H => e.cn ∈ rs ∧ exC (gaM mg e.cn) (fieldsOf e.cn) (e.fs.map FV.p) cls d H, fun f h => ⟨h.1, exC_mono f h.2⟩⟩
def erF (e : Er) (f : Str) : Option FV := ((fieldsOf e.cn).zip e.fs).lookup f
theorem XsT.kits {P : Program} {K : PySem.W.Frag} {mg : Str → Option Value} {rs cs : List Str} (T : XsT P K mg rs cs) {x : Str} (hx : x ∈ rs) : ∀ {ys : List Str}, (∀ y ∈ ys, y ∈ cs) → ys ≠ [] → PySem.W.kitAny K (.ref (gaM mg x)) (ys.map (clsU mg)) = some (ys.any (subC x))
  | [], _, ne => absurd rfl ne
  | [y], h, _ => by
    have e := T.kit x hx y (h y List.mem_cons_self)
    show PySem.W.kitAny K _ [clsU mg y] = some (subC x y || false)
    rw [Bool.or_false]
    unfold PySem.W.kitAny
    rw [e]
    cases subC x y <;> rfl
  | y :: z :: ys, h, _ => by
    have e := T.kit x hx y (h y List.mem_cons_self)
    have ih := T.kits hx (ys := z :: ys) (fun w hw => h w (List.mem_cons_of_mem _ hw)) (by simp)
    show PySem.W.kitAny K _ (clsU mg y :: (z :: ys).map (clsU mg)) = some (subC x y || (z :: ys).any (subC x))
    refine kitAny_cons e (fun hb => ?_) fun hb => ?_
    · rw [hb, Bool.false_or]; exact ih
    · rw [hb, Bool.true_or]
section
variable {X : Cx} {W : Bool} {F : Fm} {Γ : Gm} {Δ : Δs} {γ : Type} {P : Program} {rs cs : List Str}
theorem x_cls {k : Unit → Option γ} {y : Str} {pos : Pos} (T : XsT P X.K X.mg rs cs) (hy : y ∈ cs) (hg : Gl X y := by rfl) (hd : (y == ("__debug__" : Str)) = false := by decide) (hn : y ≠ "__name__" := by decide) : PE X (.Name y pos) (tE W F Γ Δ (k ()) k (fun _ => pV (clsW X.mg y)) fun _ => Δ) := by
  have h : PE X (.Name y pos) (tC (clsW X.mg y)) := by
    unfold clsW
    rcases T.own y hy with ⟨e, h⟩ | h
    · rw [h]; subst e
      exact pe_bltn hg h (by decide +kernel) rfl hn hd
    · rw [h]; exact pe_glob hg h rfl hd
  exact h.wk fun σ H Q ⟨ok, g, e, q⟩ => q () _ H e (St.refl H) ok rfl
variable {a : Addr} {oe : Obj} {cls : Value} {d : Option Addr} {pn : List (Addr × Obj)} {e : Er} {mg : Str → Option Value}
theorem exC_d {C : Addr} {ps : List Str} {pds : List Pd} {H : Hp} (h : exC C ps pds cls d H) : d = none ∨ ∃ dd fs, d = some dd ∧ H dd = some (.xd fs) := by
  obtain ⟨_, ⟨_, h⟩ | ⟨_, dd, vs, e, h, _⟩⟩ := h
  · exact .inl h
  · exact .inr ⟨dd, _, e, h⟩
theorem x_isE1 {β : Type} {T0 : Option γ} {k : β → Option γ} {Δ1 : β → Δs} {ne : Expr} {y : Str} {p1 p3 pos : Pos} (hz : Zc cls d oe) (hf : ∃ vs, oe.data = .fields vs) (T : XsT P X.K X.mg rs cs) (hy : y ∈ cs) (hm : X.mg "isinstance" = none) (h1 : PE (X.suite a ((a, oe) :: pn)) ne (tE W F Γ Δ T0 k (fun _ => pExc (erX X.mg rs) a cls d e) Δ1))
    (hg : Gl X "isinstance" := by rfl) (hgy : Gl X y := by rfl) (hdy : (y == ("__debug__" : Str)) = false := by decide) (hny : y ≠ "__name__" := by decide) (hs : starEach [ne, .Name y p3] X.env = (false, eval ne X.env) :: starEach [.Name y p3] X.env := by rfl) :
    PE (X.suite a ((a, oe) :: pn)) (.Call (.Name "isinstance" p1) [ne, .Name y p3] [] pos) (tE W F Γ Δ T0 k (fun _ => pBl (subC e.cn y)) Δ1) := by
  have h2 : ∀ b, PE (X.suite a ((a, oe) :: pn)) (.Name y p3) (tE W F Γ (Δ1 b) (k b) (fun _ : Unit => k b) (fun _ => pV (clsW X.mg y)) fun _ => Δ1 b) := fun b => x_cls (k := fun _ => k b) (X := X.suite a ((a, oe) :: pn)) T hy hgy hdy hny
  exact (b_callB (X := X.suite a ((a, oe) :: pn)) (call_isX hz hf) hg hm boot_isinstance (by decide) (by decide) hs (by rfl) (by rfl) _ _ h1 (pe_ex h2)).wk fun σ H Q ⟨ok, g, e', q⟩ => ⟨ok, g, e', fun b v H1 kb f ok1 hv => ⟨b, ok1, g, kb, fun _ w H2 kb2 f2 ok2 hw => by
    obtain ⟨ev, hin, hx⟩ := hv
    have hw : w = clsW X.mg y := hw
    subst ev hw
    have hx2 := exC_mono f2.fz hx
    exact ⟨_, _, _, rfl, hx2.1, (T.x _ hin).ec, exC_d hx2, .inl ⟨_, cls_VU X.mg y, T.kit _ hin y hy⟩, q b _ H2 kb (f.trans f2) ok2 rfl⟩⟩⟩
def pTps (ps : List Pd) : Pd where
  pr H v := ∃ a vs, v = .ref a ∧ H a = some (.tup vs) ∧ Paired (fun p u => Pd.pr p H u) ps vs
  mono := fun f ⟨a, vs, e, h, p⟩ => ⟨a, vs, e, f _ _ trivial h, paired_mono (fun p _ q => p.mono f q) p⟩
theorem x_tups {X : Cx} {es : List Expr} {x1} {pos : Pos} {β : Type} {T : Option γ} {k : β → Option γ} {Δ1 : β → Δs} {ps : List Pd} (ha : PA X es (tAr W F Γ Δ T k (fun _ => ps) Δ1)) (hl : ps.length ≤ 1000 := by decide) : PE X (.Tuple es x1 pos) (tE W F Γ Δ T k (fun _ => pTps ps) Δ1) :=
  (pe_tup ha).wk fun σ H Q ⟨ok, g, e, w⟩ => ⟨ok, g, e, fun b vs H' kb f ok' hp => by
    refine ⟨by rw [← paired_len hp]; exact Nat.le_trans hl (by decide), fun t nt => ?_⟩
    have g' : Gr H' (upd H' t (.tup vs)) := Gr.new nt
    exact w b _ _ kb (f.trans g'.st) (ok'.gr g') ⟨t, vs, rfl, upd_same, paired_mono (fun p v q => p.mono g'.fzs q) hp⟩⟩
theorem clsVs {H : Hp} {mg : Str → Option Value} : ∀ {ys : List Str} {vs : List V}, Paired (fun p u => Pd.pr p H u) (ys.map fun y => pV (clsW mg y)) vs → Paired ClsV vs (ys.map (clsU mg))
  | [], _, .nil => .nil
  | y :: ys, _, .cons r t => .cons (by
    rename_i v vs
    have r : v = clsW mg y := r
    rw [r]
    exact cls_VU mg y) (clsVs t)
theorem x_isET {β : Type} {T0 : Option γ} {k : β → Option γ} {Δ1 : β → Δs} {ne te : Expr} {p1 pos : Pos} (ys : List Str) (hz : Zc cls d oe) (hf : ∃ vs, oe.data = .fields vs) (T : XsT P X.K X.mg rs cs) (hy : ∀ y ∈ ys, y ∈ cs) (hyn : ys ≠ []) (hm : X.mg "isinstance" = none) (h1 : PE (X.suite a ((a, oe) :: pn)) ne (tE W F Γ Δ T0 k (fun _ => pExc (erX X.mg rs) a cls d e) Δ1))
    (h2 : ∀ b, PE (X.suite a ((a, oe) :: pn)) te (tE W F Γ (Δ1 b) (k b) (fun _ : Unit => k b) (fun _ => pTps (ys.map fun y => pV (clsW X.mg y))) fun _ => Δ1 b)) (hg : Gl X "isinstance" := by rfl) (hs : starEach [ne, te] X.env = (false, eval ne X.env) :: starEach [te] X.env := by rfl) (hs2 : starEach [te] X.env = (false, eval te X.env) :: starEach [] X.env := by rfl) (hpl : (backTo pos (starEach [te] X.env)).any (·.1) = false := by rfl) :
    PE (X.suite a ((a, oe) :: pn)) (.Call (.Name "isinstance" p1) [ne, te] [] pos) (tE W F Γ Δ T0 k (fun _ => pBl (ys.any (subC e.cn))) Δ1) :=
  (b_callB (X := X.suite a ((a, oe) :: pn)) (call_isX hz hf) hg hm boot_isinstance (by decide) (by decide) hs hs2 hpl _ _ h1 (pe_ex h2)).wk fun σ H Q ⟨ok, g, e', q⟩ => ⟨ok, g, e', fun b v H1 kb f ok1 hv => ⟨b, ok1, g, kb, fun _ w H2 kb2 f2 ok2 hw => by
    obtain ⟨ev, hin, hx⟩ := hv
    obtain ⟨tp, vs, ew, ht, hp⟩ := hw
    subst ev ew
    have hx2 := exC_mono f2.fz hx
    exact ⟨_, _, _, rfl, hx2.1, (T.x _ hin).ec, exC_d hx2, .inr ⟨tp, vs, _, rfl, ht, clsVs hp, T.kits hin hy hyn⟩, q b _ H2 kb (f.trans f2) ok2 rfl⟩⟩⟩
theorem zip_rev_V : ∀ {ps : List Str} {vs : List V}, ps.Nodup → ∀ {f : Str} {pds : List Pd} {fvs : List FV} {fv : FV} {H : Hp}, pds = fvs.map FV.p → Paired (fun p v => Pd.pr p H v) pds vs → (ps.zip fvs).lookup f = some fv → ∃ v, (ps.zip vs).reverse.lookup f = some v ∧ (FV.p fv).pr H v
  | [], _, _, f, pds, fvs, fv, H, _, _, h => by simp at h
  | p :: ps, vs, nd, f, pds, [], fv, H, _, _, h => by simp at h
  | p :: ps, vs, nd, f, pds, q :: fvs, fv, H, e, hp, h => by
    subst e
    cases hp with
    | @cons _ v _ vs r t =>
      rw [List.nodup_cons] at nd
      rw [List.zip_cons_cons, List.lookup_cons] at h
      rw [List.zip_cons_cons, List.reverse_cons, List.lookup_append]
      by_cases hf : f = p
      · subst hf
        simp only [beq_self_eq_true] at h
        cases h
        have hn : (ps.zip vs).reverse.lookup f = none := by
          rw [List.lookup_eq_none_iff]
          intro q hq
          have hq := List.mem_reverse.mp hq
          have := (List.of_mem_zip (show (q.1, q.2) ∈ ps.zip vs from hq)).1
          simp only [beq_eq_false_iff_ne, ne_eq, bne_iff_ne, Bool.not_eq_true]
          exact fun e => nd.1 (by rw [e]; exact this)
        rw [hn]
        exact ⟨v, by simp [List.lookup], r⟩
      · have hb : (f == p) = false := by simpa using hf
        rw [hb] at h
        obtain ⟨v', e', r'⟩ := zip_rev_V nd.2 (f := f) rfl t h
        exact ⟨v', by rw [e']; rfl, r'⟩
theorem x_erF {β : Type} {T0 : Option γ} {k : β × FV → Option γ} {Δ1 : β → Δs} {ne : Expr} {f : Str} {pos : Pos} (hz : Zc cls d oe) (hf : ∃ vs, oe.data = .fields vs) (T : XsT P X.K X.mg rs cs) (h1 : PE (X.suite a ((a, oe) :: pn)) ne (tE W F Γ Δ T0 (fun b => (erF e f).bind fun y => k (b, y)) (fun _ => pExc (erX X.mg rs) a cls d e) Δ1))
    (hb : attributeBase ne f X.env (eval ne X.env) = eval ne X.env := by rfl) : PE (X.suite a ((a, oe) :: pn)) (.Attribute ne f pos) (tE W F Γ Δ T0 k (fun b => FV.p b.2) fun b => Δ1 b.1) := by
  by_cases hin : e.cn ∈ rs ∧ f ∈ fieldsOf e.cn
  · obtain ⟨fI, tx⟩ := (T.x _ hin.1).tx
    exact (pe_xf (X := X) (T.x _ hin.1).xf (tx.noN f hin.2) hz hf h1 hb).wk fun σ H Q ⟨ok, g, e', q⟩ => ⟨ok, g, e', fun b v H1 kb fz ok1 hv => by
      obtain ⟨ev, _, hx⟩ := hv
      obtain ⟨y, ey, ky⟩ := bind_some kb
      obtain ⟨ec, ⟨en, _⟩ | ⟨_, dd, vs, ed, hd, hp⟩⟩ := hx
      · unfold erF at ey
        rw [en] at ey
        simp at ey
      · obtain ⟨v', el, hv'⟩ := zip_rev_V (fields_nd e.cn) rfl hp ey
        exact ⟨ev, ec, dd, _, v', ed, hd, el, q (b, y) v' H1 ky fz ok1 hv'⟩⟩
  · have he : ∀ {τ : Type} (kk : FV → Option τ), e.cn ∈ rs → (erF e f).bind kk = none := fun kk hr => by
      have hnf : f ∉ fieldsOf e.cn := fun z => hin ⟨hr, z⟩
      have : erF e f = none := by
        unfold erF
        rw [List.lookup_eq_none_iff]
        intro q hq
        have := (List.of_mem_zip (show (q.1, q.2) ∈ (fieldsOf e.cn).zip e.fs from hq)).1
        simp only [beq_eq_false_iff_ne, ne_eq, bne_iff_ne, Bool.not_eq_true]
        exact fun e => hnf (by rw [e]; exact this)
      rw [this]; rfl
    refine ⟨fun pins s σ H Q I ⟨ok, g, e', q⟩ => attr_of hb (thn (h1.run pins s σ H (fun _ _ => False) I ⟨ok, g, e', fun b v H1 kb fz ok1 hv => by
      obtain ⟨y, ey, _⟩ := bind_some kb
      have z := he (fun y => some y) hv.2.1
      rw [ey] at z
      cases z⟩) fun u s1 hh => ?_)⟩
    obtain ⟨_, _, _, _, z⟩ := hh
    exact z.elim
theorem x_fv {X : Cx} {a : Expr} {β α : Type} {T : Option γ} {k : β × α → Option γ} {Ee : α → Pd} {x : β → FV} {Δ1 : β → Δs} (c : FV → Option α) (hc : ∀ y z, c y = some z → FV.p y = Ee z) (ha : PE X a (tE W F Γ Δ T (fun b => (c (x b)).bind fun y => k (b, y)) (fun b => FV.p (x b)) Δ1)) : PE X a (tE W F Γ Δ T k (fun b => Ee b.2) fun b => Δ1 b.1) :=
  ha.wk fun σ H Q ⟨ok, g, e, q⟩ => ⟨ok, g, e, fun b v H' kb f ok' hv => by
    obtain ⟨y, ey, ky⟩ := bind_some kb
    have hv : (FV.p (x b)).pr H' v := hv
    rw [hc _ _ ey] at hv
    exact q (b, y) v H' ky f ok' hv⟩
theorem fv_int : ∀ y z, FV.int? y = some z → FV.p y = pInt z := fun y z h => by cases y <;> cases h <;> rfl
end
end L3
end
section
set_option maxHeartbeats 4000000
set_option autoImplicit true
namespace L3
open PySem PySem.Spec PyProof.Rows L2 PySem.SxX
theorem nm_wk {Γ Γ' : Gm} {σ : SS} {H : Hp} (k : Nm Γ σ H) (g : SubG Γ' Γ) : Nm Γ' σ H := ⟨k.len.trans g.len.symm, fun i p e => k.gam i p (g.get e)⟩
section
variable {X : Cx} {W : Bool} {F : Fm} {Γ : Gm} {Δ : Δs} {γ : Type} {N : Fn γ} {rest : List Stmt}
end
theorem XsT.exms {P : Program} {K : PySem.W.Frag} {mg : Str → Option Value} {rs cs : List Str} (T : XsT P K mg rs cs) {y : Str} (hy : y ∈ cs) : ∀ e cls d H, (erX mg rs).ok e cls d H → PySem.W.exmOne K cls (clsU mg y) = some (subC e.cn y) := fun e cls d H h => by
  rw [h.2.1]
  exact T.exm _ h.1 y hy
section
variable {X : Cx} {W : Bool} {F : Fm} {Γ : Gm} {Δ : Δs} {γ : Type}
theorem y_cls {P : Program} {rs cs : List Str} {T : Option γ} {y : Str} {pos : Pos} (Tx : XsT P X.K X.mg rs cs) (hy : y ∈ cs) (hg : Gl X y := by rfl) (hd : (y == ("__debug__" : Str)) = false := by decide) (hn : y ≠ "__name__" := by decide) : PE X (.Name y pos) (tE W F Γ Δ T (fun _ : Unit => T) (fun _ => pV (clsW X.mg y)) fun _ => Δ) := x_cls (k := fun _ => T) Tx hy hg hd hn
section
variable {a b : Expr} {pos : Pos} {β1 β2 : Type} {T : Option γ} {k1 : β1 → Option γ} {k : β1 × β2 → Option γ} {Δ1 : β1 → Δs} {Δ2 : β1 → β2 → Δs}
end
end
end L3
end
section
set_option maxHeartbeats 4000000
set_option autoImplicit true
namespace L3
open PySem PySem.Spec PyProof.Rows L2 PySem.SxX
section
variable {X : Cx} {W : Bool} {F : Fm} {Γ : Gm} {Δ : Δs} {γ : Type} {P : Program} {rs cs : List Str}
theorem c_nil {T : Option γ} {mg : Str → Option Value} : PA X [] (tAr W F Γ Δ T (fun _ : Unit => T) (fun _ => ([] : List Str).map fun y => pV (clsW mg y)) fun _ => Δ) := b_nil
theorem c_cons {T : Option γ} {y : Str} {ys : List Str} {es : List Expr} {pos : Pos} (Tx : XsT P X.K X.mg rs cs) (hy : y ∈ cs) (h : PA X es (tAr W F Γ Δ T (fun _ : Unit => T) (fun _ => ys.map fun y => pV (clsW X.mg y)) fun _ => Δ)) (hg : Gl X y := by rfl) (hd : (y == ("__debug__" : Str)) = false := by decide) (hn : y ≠ "__name__" := by decide)
    (hs : starEach (.Name y pos :: es) X.env = (false, eval (.Name y pos) X.env) :: starEach es X.env := by rfl) : PA X (.Name y pos :: es) (tAr W F Γ Δ T (fun _ : Unit => T) (fun _ => (y :: ys).map fun y => pV (clsW X.mg y)) fun _ => Δ) :=
  (a_cons (β1 := Unit) (β2 := Unit) (k1 := fun _ => T) (k := fun _ => T) (Es := fun _ _ => ys.map fun y => pV (clsW X.mg y)) (Δ1 := fun _ => Δ) (Δ2 := fun _ _ => Δ) (y_cls (pos := pos) Tx hy hg hd hn) (fun _ => h) hs).wk fun σ H Q ⟨ok, g, e, q⟩ => ⟨ok, g, e, fun b v H' kb f ok' hv => q () v H' kb f ok' (by cases b; exact hv)⟩
variable {a : Addr} {oe : Obj} {cls : Value} {d : Option Addr} {pn : List (Addr × Obj)} {e : Er}
theorem x_isEC {β : Type} {T0 : Option γ} {k : β → Option γ} {Δ1 : β → Δs} {ne : Expr} {es : List Expr} {p1 p2 pos : Pos} {x1} (ys : List Str) (hz : Zc cls d oe) (hf : ∃ vs, oe.data = .fields vs) (T : XsT P X.K X.mg rs cs) (hy : ∀ y ∈ ys, y ∈ cs) (hyn : ys ≠ []) (hm : X.mg "isinstance" = none) (h1 : PE (X.suite a ((a, oe) :: pn)) ne (tE W F Γ Δ T0 k (fun _ => pExc (erX X.mg rs) a cls d e) Δ1))
    (h2 : ∀ b, PA (X.suite a ((a, oe) :: pn)) es (tAr W F Γ (Δ1 b) (k b) (fun _ : Unit => k b) (fun _ => ys.map fun y => pV (clsW X.mg y)) fun _ => Δ1 b)) (hl : ys.length ≤ 1000 := by decide) (hg : Gl X "isinstance" := by rfl) (hs : starEach [ne, .Tuple es x1 p2] X.env = (false, eval ne X.env) :: starEach [.Tuple es x1 p2] X.env := by rfl) (hs2 : starEach [.Tuple es x1 p2] X.env = (false, eval (.Tuple es x1 p2) X.env) :: starEach [] X.env := by rfl) (hpl : (backTo pos (starEach [.Tuple es x1 p2] X.env)).any (·.1) = false := by rfl) :
    PE (X.suite a ((a, oe) :: pn)) (.Call (.Name "isinstance" p1) [ne, .Tuple es x1 p2] [] pos) (tE W F Γ Δ T0 k (fun _ => pBl (ys.any (subC e.cn))) Δ1) :=
  x_isET ys hz hf T hy hyn hm h1 (fun b => x_tups (h2 b) (by rw [List.length_map]; exact hl)) hg hs hs2 hpl
end
end L3
end
section
set_option maxHeartbeats 4000000
set_option autoImplicit true
namespace L3
open PySem PySem.Spec PyProof.Rows L2 PySem.SxX
open He (ga ma eqO eqO_ok ba)
theorem clsXB_ok {K : PySem.W.Frag} {C : Addr} (q : clsXB K C = true) : ∃ nm q N bs bm sn sub ab col dd k0 k1 k2 k3 k5, K.lookup C = some (excClassObj nm q C N bs bm true sn sub ab col dd k0 k1 k2 k3 k5 "ValueError.__new__") ∧ PySem.HandSPX.refsVE bm = true := by
  unfold clsXB at q
  split at q
  · rename_i dd cd sl ho
    split at q
    · rename_i C' bm k0 k1 k2 k3 n k5 hm hs
      simp only [Bool.and_eq_true, beq_iff_eq, Bool.not_eq_true'] at q
      obtain ⟨⟨⟨⟨rfl, rfl⟩, hdel⟩, hdi⟩, ht⟩ := q
      obtain ⟨nm, bs, mro, ns, qn, hd, sn, sub, ab, col, del⟩ := cd
      dsimp only at hm hdel hdi
      subst hm hdel hdi
      have hsl : sl = #[k0, k1, k2, k3, some (.builtin "ValueError.__new__"), k5] := by
        obtain ⟨l⟩ := sl
        simp only at hs
        rw [hs]
      subst hsl
      exact ⟨nm, qn, ns, bs, bm, sn, sub, ab, col, dd, k0, k1, k2, k3, k5, ho, ht⟩
    · cases q
  · cases q
structure XTx (P : Program) (d : XD) : Prop where
  few : d.ps.length ≤ 900
  top : (P.main.scope.names.lookup ("super" : Str)).isSome = false
  tx : ∃ (ar : Arg) (text : Str) (kk : Nat) (q0 q1 q2 q3 q4 q5 : Pos) (stores : List Stmt), d.body = .Expr (.Call (.Attribute (.Call (.Name "super" q1) [] [] q2) "__init__" q3) [.Constant (.str text) kk q0] [] q4) q5 :: stores ∧ Stores stores d.ps ∧
    (d.params.posonlyargs ++ d.params.args).head? = some ar ∧ ar.arg = "self" ∧ (q3.endLine == q4.line) = true
  s1 : d.scope.names.lookup ("super" : Str) = some .globalImplicit
  s2 : d.scope.names.lookup ("__class__" : Str) = some .free
  s3 : d.scope.names.lookup ("self" : Str) = some .local
  s4 : ∀ f ∈ d.ps, d.scope.names.lookup f = some .local
  s5 : d.scope.kind = .function
  s6 : d.scope.isCoroutine = false
  s7 : d.scope.isGenerator = false
  s8 : ∀ x ∈ d.scope.names, x.2 ≠ .cell
  nd : (("self" : Str) :: d.ps).Nodup
  bi : ∀ (doc pm : Value) (an : Option Addr) (cda ct : Value) (cc : Addr) (us : List Value), us.length = d.ps.length + 1 → bindArgs (PySem.W.ksFn "__init__" d.qual d.params d.body d.scope .none .none doc pm an cda ct cc) ⟨us, []⟩ = pure ((("self" : Str) :: d.ps).zip us)
theorem XD.sx {P : Program} {K : PySem.W.Frag} {d : XD} (e : fnXo K d.name = d.val) (c : d.ok P K = true) (t : XTx P d) : SxTxt P K (ga K d.name) (iAd K d.name) d.ps ∧ ExcC K (ga K d.name) ∧ XfC K (ga K d.name) := by
  obtain ⟨c1, c⟩ := ba c
  obtain ⟨c2, c⟩ := ba c
  obtain ⟨c3, c⟩ := ba c
  obtain ⟨c4, c⟩ := ba c
  obtain ⟨c5, c⟩ := ba c
  obtain ⟨c6, c⟩ := ba c
  obtain ⟨c7, c⟩ := ba c
  obtain ⟨c8, c⟩ := ba c
  obtain ⟨c9, c⟩ := ba c
  obtain ⟨c10, c⟩ := ba c
  obtain ⟨c11, c⟩ := ba c
  obtain ⟨c12, c⟩ := ba c
  obtain ⟨c13, c⟩ := ba c
  obtain ⟨c14, c⟩ := ba c
  obtain ⟨c15, c⟩ := ba c
  obtain ⟨c16, c⟩ := ba c
  obtain ⟨c17, c⟩ := ba c
  obtain ⟨c18, c19⟩ := ba c
  refine ⟨⟨clsXB_ok c1, eqO_ok c2, fun f hf => eqO_ok (List.all_eq_true.mp c3 f hf), eqO_ok c4, of_decide_eq_true c5, c6, of_decide_eq_true c7, of_decide_eq_true c8, of_decide_eq_true c9, eqO_ok c10, eqO_ok c11, t.few, t.top, ?_⟩, ⟨eqO_ok c13, eqO_ok c14, of_decide_eq_true c7, c15, eqO_ok c16, eqO_ok c17, of_decide_eq_true c18, of_decide_eq_true c19⟩, ⟨eqO_ok c13, eqO_ok c14, of_decide_eq_true c7, c15⟩⟩
  obtain ⟨ar, text, kk, q0, q1, q2, q3, q4, q5, stores, eb, st, ha, hs, hl⟩ := t.tx
  have bi := t.bi
  obtain ⟨dn, dq, dp, db, ds, dps⟩ := d
  dsimp only at *
  subst eb
  unfold fnXo XD.val at e
  unfold iniXB at c12
  dsimp only at e c12
  cases q : K.lookup (iAd K dn) with
  | none => rw [q] at c12; cases c12
  | some o =>
    obtain ⟨oc, od, dt, osl⟩ := o
    rw [q] at c12 e
    cases dt with
    | func fd =>
      obtain ⟨n1, n2, n3, n4, n5, n6, n7, n8, n9, n10, n11, n12, n13, n14, n15⟩ := fd
      simp only [Option.some.injEq, Prod.mk.injEq] at e
      obtain ⟨h1, h2, h3, h4, h5, h6, h7, h8⟩ := e
      subst h1 h2 h3 h4 h5 h6 h8
      dsimp only at c12
      cases n8 with
      | none =>
        cases n9 with
        | none =>
          cases n13 with
          | ref cda =>
            match n7, h7, c12 with
            | [(nm, cc)], h7, c12 =>
              have h7 : [nm] = [("__class__" : Str)] := h7
              obtain rfl : nm = ("__class__" : Str) := (List.cons.inj h7).1
              obtain ⟨k1, k2⟩ := ba c12
              obtain ⟨k2, k3⟩ := ba k2
              split at k2
              · rename_i ccl cdd vs ccs hk
                split at k2
                · rename_i file tf hv
                  split at k3
                  · rename_i cl cld C' csl hc
                    have eC : C' = ga K dn := beq_iff_eq.mp k3
                    subst eC
                    exact ⟨oc, od, n10, n11, n12, cda, n14, osl, cc, _, _, ar, text, kk, q0, q1, q2, q3, q4, q5, stores, _, ccl, cdd, vs, ccs, file, tf, cl, cld, csl, rfl, k1, st, ha, hs, hk, hv, k2, hl, hc, t.s1, t.s2, t.s3, t.s4, t.s5, t.s6, t.s7, t.s8, t.nd, fun s us hl => .of_eq (bi _ _ _ _ _ _ us hl)⟩
                  · cases k3
                · cases k2
              · cases k2
            | [], _, c12 => cases c12
            | _ :: _ :: _, _, c12 => cases c12
          | _ => cases c12
        | _ => cases c12
      | _ => cases c12
    | _ => cases c12
section
variable {P : Program} {fa : List He.Fa} {fn : List He.DefD} {xs : List XD} {rs cs : List Str} {K : PySem.W.Frag}
theorem SaysX.xc {mg : Str → Option Value} (c : SaysX P fa fn xs rs cs K) (i : Nat) {d : XD} (h : xs[i]? = some d) (t : XTx P d) (hg : mg d.name = some (.ref (ga K d.name))) (hp : d.ps = fieldsOf d.name) : XcT P K mg d.name := by
  have c2 := (ba (show ((xs.all fun d => d.ok P K) && tabB K rs cs) = true from congrArg (fun z : AlX => z.2.2) c)).1
  have e : xs.map (fun d => fnXo K d.name) = xs.map XD.val := congrArg (fun z : AlX => z.2.1) c
  have e2 : (xs.map fun d => fnXo K d.name)[i]? = (xs.map XD.val)[i]? := by rw [e]
  rw [List.getElem?_map, List.getElem?_map, h] at e2
  obtain ⟨z1, z2, z3⟩ := XD.sx (Option.some.inj e2) (List.all_eq_true.mp c2 d (List.mem_of_getElem? h)) t
  have eg : gaM mg d.name = ga K d.name := by unfold gaM; rw [hg]
  exact ⟨by rw [eg]; exact hg, ⟨_, by rw [eg, ← hp]; exact z1⟩, by rw [eg]; exact z2, by rw [eg]; exact z3⟩
theorem SaysX.xst {mg : Str → Option Value} (c : SaysX P fa fn xs rs cs K) (hsup : mg "super" = none) (hx : ∀ x ∈ rs, XcT P K mg x) (hr : ∀ x ∈ rs, mg x = some (.ref (ga K x))) (hc : ∀ y ∈ cs, y = "ValueError" ∧ mg y = none ∨ y ≠ "ValueError" ∧ mg y = some (.ref (ga K y))) : XsT P K mg rs cs := by
  have c2 := (ba (show ((xs.all fun d => d.ok P K) && tabB K rs cs) = true from congrArg (fun z : AlX => z.2.2) c)).2
  have eg : ∀ x, mg x = some (.ref (ga K x)) → gaM mg x = ga K x := fun x h => by unfold gaM; rw [h]
  have eu : ∀ y ∈ cs, clsU mg y = cU K y := fun y hy => by
    unfold clsU cU
    rcases hc y hy with ⟨e, h⟩ | ⟨e, h⟩
    · rw [h, if_pos e]
    · rw [h, if_neg e]
  have tb : ∀ x ∈ rs, ∀ y ∈ cs, PySem.W.kitOne K (.ref (gaM mg x)) (clsU mg y) = some (subC x y) ∧ PySem.W.exmOne K (.ref (gaM mg x)) (clsU mg y) = some (subC x y) := fun x hx y hy => by
    rw [eg x (hr x hx), eu y hy]
    obtain ⟨a, b⟩ := ba (List.all_eq_true.mp (List.all_eq_true.mp c2 x hx) y hy)
    exact ⟨of_decide_eq_true a, of_decide_eq_true b⟩
  refine ⟨hsup, hx, fun y hy => ?_, fun x hx y hy => (tb x hx y hy).1, fun x hx y hy => (tb x hx y hy).2⟩
  rcases hc y hy with h | ⟨_, h⟩
  · exact .inl h
  · exact .inr (by rw [eg y h]; exact h)
end
end L3
end
section
set_option maxHeartbeats 4000000
set_option autoImplicit true
namespace L3
open PySem PySem.Spec PyProof.Rows L2
section
variable {X : Cx} {F : Fm} {Γ : Gm} {Δ : Δs} {γ : Type}
variable {α β β3 δ : Type} {g : TG} {own : List (Str × Nat)} {T : Option γ} {k : β × List δ → Option γ} {Ex : α → Pd} {D : δ → Od} {bd : Gm → α → Gm} {xs : β → List α} {Δ1 : β → Δs} {f : β → α → Option δ} {y : β → α → β3 → δ}
end
section
variable {X : Cx} {W : Bool} {F : Fm} {Γ : Gm} {Δ : Δs} {γ : Type}
end
end L3
end
section
set_option maxHeartbeats 4000000
set_option autoImplicit true
namespace L3
open PySem PySem.Spec PyProof.Rows L2
def smL {α β : Type} : α ⊕ β → Option α
  | .inl x => some x
  | .inr _ => none
def smR {α β : Type} : α ⊕ β → Option β
  | .inl _ => none
  | .inr y => some y
section
variable {X : Cx} {W : Bool} {F : Fm} {Γ : Gm} {Δ : Δs} {γ : Type} {α β α' : Type} {E : α → Pd} {G : α' → Pd}
theorem co_inl {e : Expr} {x : β → α} {T : Option γ} {k : β → Option γ} {Δ' : β → Δs} (he : PE X e (tE W F Γ Δ T k (fun b => E (x b)) Δ')) : PE X e (tE W F Γ Δ T k (fun b => pSm E G (.inl (x b))) Δ') := he
theorem co_inr {e : Expr} {x : β → α'} {T : Option γ} {k : β → Option γ} {Δ' : β → Δs} (he : PE X e (tE W F Γ Δ T k (fun b => G (x b)) Δ')) : PE X e (tE W F Γ Δ T k (fun b => pSm E G (.inr (x b))) Δ') := he
theorem x_inl {a : Expr} {T : Option γ} {k : β × α → Option γ} {x : β → α ⊕ α'} {Δ1 : β → Δs} (ha : PE X a (tE W F Γ Δ T (fun b => (smL (x b)).bind fun y => k (b, y)) (fun b => pSm E G (x b)) Δ1)) : PE X a (tE W F Γ Δ T k (fun b => E b.2) fun b => Δ1 b.1) :=
  ha.wk fun σ H Q ⟨ok, g, e, q⟩ => ⟨ok, g, e, fun b v H' kb f ok' hv => by
    obtain ⟨y, ey, ky⟩ := bind_some kb
    have hv : (pSm E G (x b)).pr H' v := hv
    cases ex : x b with
    | inl z => rw [ex] at ey hv; cases ey; exact q (b, y) v H' ky f ok' hv
    | inr z => rw [ex] at ey; cases ey⟩
theorem x_inr {a : Expr} {T : Option γ} {k : β × α' → Option γ} {x : β → α ⊕ α'} {Δ1 : β → Δs} (ha : PE X a (tE W F Γ Δ T (fun b => (smR (x b)).bind fun y => k (b, y)) (fun b => pSm E G (x b)) Δ1)) : PE X a (tE W F Γ Δ T k (fun b => G b.2) fun b => Δ1 b.1) :=
  ha.wk fun σ H Q ⟨ok, g, e, q⟩ => ⟨ok, g, e, fun b v H' kb f ok' hv => by
    obtain ⟨y, ey, ky⟩ := bind_some kb
    have hv : (pSm E G (x b)).pr H' v := hv
    cases ex : x b with
    | inr z => rw [ex] at ey hv; cases ey; exact q (b, y) v H' ky f ok' hv
    | inl z => rw [ex] at ey; cases ey⟩
theorem t_truL {a : Expr} {T : Option γ} {k : β → Option γ} {Δ1 : β → Δs} {xs : β → List α} (ha : PE X a (tE W F Γ Δ T k (fun b => pL E (xs b)) Δ1)) (he : ∀ whole, isTrue a X.env whole = (do let v ← whole; standAt a.pos; holding [v] (truthy v)) := by intro _; rfl) : PT X a (tTs W F Γ Δ T k (fun b => !(xs b).isEmpty) Δ1) :=
  (pt_truth ha he).wk fun σ H Q ⟨ok, g, e, q⟩ => ⟨ok, g, e, fun b v H' kb f ok' ⟨p, o, vs, ev, h, z, pr⟩ => ⟨!(xs b).isEmpty, by
    rw [ev]
    exact .inl ⟨vs, .inl (.inr ⟨o, h⟩), by
      have := paired_len pr
      cases hx : xs b <;> cases vs <;> simp_all⟩, q b H' kb f ok'⟩⟩
end
end L3
end
section
set_option maxHeartbeats 4000000
set_option autoImplicit true
namespace L3
open PySem PySem.Spec PyProof.Rows L2
section
variable {X : Cx} {W : Bool} {F : Fm} {Γ : Gm} {Δ : Δs} {γ : Type}
section
variable {a b : Expr} {pos : Pos} {β1 β2 α β : Type} {T : Option γ} {k1 : β1 → Option γ} {k : β1 × β2 → Option γ} {Δ1 : β1 → Δs} {Δ2 : β1 → β2 → Δs} {E : α → Pd} {G : β → Pd} {x : β1 → α × β} {y : β1 → β2 → α × β}
end
section
variable {a b : Expr} {pos : Pos} {β1 β2 α : Type} [DecidableEq α] {T : Option γ} {k1 : β1 → Option γ} {k : β1 × β2 → Option γ} {Δ1 : β1 → Δs} {Δ2 : β1 → β2 → Δs} {E : α → Pd} {x : β1 → α} {y : β1 → β2 → List α}
end
end
end L3
end
section
set_option maxHeartbeats 4000000
set_option autoImplicit true
namespace L3
open PySem PySem.Spec PyProof.Rows L2
section
variable {X : Cx} {W : Bool} {F : Fm} {Γ : Gm} {Δ : Δs} {γ : Type}
end
end L3
end
section
set_option maxHeartbeats 4000000
set_option autoImplicit true
namespace L3
open PySem PySem.Spec PyProof.Rows L2
section
variable {X : Cx}
end
section
variable {X : Cx} {F : Fm} {Γ : Gm} {Δ : Δs} {γ : Type} {κ δ : Type} [DecidableEq κ] [Ky κ]
variable {α β β2 β3 : Type} {g : TG} {own : List (Str × Nat)} {T : Option γ} {k : β × List (κ × δ) → Option γ} {Ex : α → Pd} {D : δ → Od} {bd : Gm → α → Gm} {xs : β → List α} {Δ1 : β → Δs} {f : β → α → Option (κ × δ)} {T2 : β → α → β2 → Option (κ × δ)} {ky : β → α → β2 → κ} {y : β → α → β2 → β3 → δ}
end
end L3
end
section
set_option maxHeartbeats 4000000
set_option autoImplicit true
namespace L3
open PySem PySem.Spec PyProof.Rows L2
section
variable {X : Cx} {W : Bool} {F : Fm} {Γ : Gm} {Δ : Δs} {γ : Type}
section
variable {a : Expr} {n} {p pos : Pos} {β α1 α2 α3 α4 : Type} {T : Option γ} {k : β → Option γ} {Δ1 : β → Δs} {A : α1 → Pd} {B : α2 → Pd} {C : α3 → Pd} {D : α4 → Pd}
end
end
def oW {α β : Type} (E : α → Pd) (D : β → Od) (x : α × β) : Od where
  pr G H v := ∃ a u w, v = .ref a ∧ H a = some (.tup [u, w]) ∧ (E x.1).pr H u ∧ (D x.2).pr G H w
  pd := pT2 E (fun y => (D y).pd) x
  frame := fun ⟨a, u, w, ev, h, p, q⟩ k f => ⟨a, u, w, ev, f _ _ trivial h, (E _).mono f p, (D _).frame q k f⟩
  cells := fun ⟨a, u, w, ev, h, p, q⟩ => (D _).cells q
  lockd := fun ⟨a, u, w, ev, h, p, q⟩ h1 h2 => ⟨a, u, w, ev, lk_fzs ((D _).cells q) h1 _ _ trivial h, (E _).mono (lk_fzs ((D _).cells q) h1) p, (D _).lockd q h1 h2⟩
section
variable {X : Cx} {W : Bool} {F : Fm} {Γ : Gm} {Δ : Δs} {γ : Type}
theorem x_lclear {o : Expr} {apos cpos : Pos} {β α : Type} {T : Option γ} {k : β → Option γ} {Δ1 : β → Δs} {E : α → Pd} {xs : β → List α} {v : V} {prm : Option Nat} (j : Nat) (ho : PE X o (tE true F Γ Δ T k (fun _ => pV v) Δ1)) (hj : ∀ b, (Δ1 b)[j]? = some ⟨v, oL E (xs b), prm⟩)
    (hbase : attributeBase o "clear" X.env (eval o X.env) = eval o X.env := by rfl) (hline : (apos.endLine == cpos.line) = true := by rfl) :
    PE X (.Call (.Attribute o "clear" apos) [] [] cpos) (tE true F Γ Δ T k (fun _ => pNon) fun b => (Δ1 b).set j ⟨v, oL E [], prm⟩) :=
  (pe_bm0 PySem.F.plainAttrs_list PySem.F.slot_list_clear PySem.F.type_list_clear mt_clear ho hbase hline).wk fun σ H Q ⟨ok, g, e, q⟩ => ⟨ok, g, e, fun b u H1 kb f ok1 hu => by
    have hu : u = v := hu
    subst hu
    obtain ⟨G, ⟨p, vs, eG, ev, hp, z, pr⟩, _, turn⟩ := ok1.cell (hj b)
    have eG : G = [p] := eG
    have ev : u = .ref p := ev
    obtain ⟨ok3, f3⟩ := turn (upd H1 p (.lst [])) (oL E []) (fun a o na e => by
      rw [upd_ne fun q => na (by show a ∈ G; rw [eG, q]; exact List.mem_singleton.mpr rfl)]
      exact e) ⟨p, _, eG, ev, upd_same, Nat.zero_le _, .nil⟩
    exact ⟨by rw [ev]; exact .inl ⟨rfl, vs, .inl (.inl hp)⟩, p, vs, ev, rfl, hp, q b .non _ kb (f.trans f3) ok3 rfl⟩⟩
end
section
variable {X : Cx} {W : Bool} {F : Fm} {Γ : Gm} {Δ : Δs} {γ : Type} {κ α δ : Type} [DecidableEq κ] [Ky κ] [DecidableEq α] [DecidableEq δ]
variable {a b : Expr} {pos : Pos} {β1 β2 : Type} {T : Option γ} {k1 : β1 → Option γ} {k : β1 × β2 → Option γ} {Δ1 : β1 → Δs} {Δ2 : β1 → β2 → Δs} {E : α → Pd} {G : δ → Pd} {x : β1 → List α ⊕ List (κ × δ)} {y : β1 → β2 → List α ⊕ List (κ × δ)}
end
end L3
end
section
set_option maxHeartbeats 4000000
set_option autoImplicit true
namespace L3
open PySem PySem.Spec PyProof.Rows L2
section
variable {X : Cx} {W : Bool} {F : Fm} {Γ : Gm} {Δ : Δs} {γ : Type}
end
section
variable {X : Cx} {W : Bool} {F : Fm} {Γ : Gm} {Δ : Δs} {γ : Type} {κ α δ : Type} [DecidableEq κ] [Ky κ] [DecidableEq α] [DecidableEq δ]
variable {a b : Expr} {pos : Pos} {β1 β2 : Type} {T : Option γ} {k1 : β1 → Option γ} {k : β1 × β2 → Option γ} {Δ1 : β1 → Δs} {Δ2 : β1 → β2 → Δs} {E : α → Pd} {G : δ → Pd} {x : β1 → List α ⊕ List (κ × δ)} {y : β1 → β2 → List α ⊕ List (κ × δ)}
end
end L3
end
section
set_option maxHeartbeats 4000000
set_option autoImplicit true
namespace L3
open PySem PySem.Spec PyProof.Rows L2
theorem Od.lockdW (d : Od) {G S : List Addr} {H H1 : Hp} {v : V} (h : d.pr G H v) (hs : ∀ a ∈ G, a ∈ S) (hm : ∀ a ∈ S, ∃ o, H a = some o ∧ Mut (some o)) (h1 : ∀ a, a ∉ S → H1 a = H a) (h2 : ∀ a ∈ S, ∀ u, H a = some u → ∃ o, H1 a = some (.frz o u)) : d.pd.pr H1 v := by
  have hf : d.pr G (fun a => if a ∈ G then H a else H1 a) v := d.frame h (fun a ha o e => by
    show (if a ∈ G then H a else H1 a) = _
    rw [if_pos ha]; exact e) fun a o p e => by
    show (if a ∈ G then H a else H1 a) = _
    have hn : a ∉ S := fun z => by
      obtain ⟨u, eu, m⟩ := hm a z
      rw [e] at eu
      cases eu
      exact Mut.npst m p
    rw [if_neg fun z => hn (hs a z), h1 a hn]; exact e
  refine d.lockd hf (fun a ha => ?_) fun a ha u e => ?_
  · show H1 a = (if a ∈ G then H a else H1 a)
    rw [if_neg ha]
  · have e : (if a ∈ G then H a else H1 a) = some u := e
    rw [if_pos ha] at e
    exact h2 a (hs a ha) u e
def oTT {α β : Type} (A : α → Od) (B : β → Od) (x : α × β) : Od where
  pr G H v := ∃ a u w G1 G2, G = G1 ++ G2 ∧ v = .ref a ∧ H a = some (.tup [u, w]) ∧ (A x.1).pr G1 H u ∧ (B x.2).pr G2 H w
  pd := pT2 (fun y => (A y).pd) (fun y => (B y).pd) x
  frame := fun {G H H' v} h k f => by
    obtain ⟨a, u, w, G1, G2, eg, ev, ht, p, q⟩ := h
    subst eg
    exact ⟨a, u, w, G1, G2, rfl, ev, f _ _ trivial ht, (A _).frame p (fun a ha => k a (List.mem_append_left _ ha)) f, (B _).frame q (fun a ha => k a (List.mem_append_right _ ha)) f⟩
  cells := fun {G H v} h x hx => by
    obtain ⟨a, u, w, G1, G2, eg, ev, ht, p, q⟩ := h
    rw [eg] at hx
    rcases List.mem_append.mp hx with z | z
    · exact (A _).cells p x z
    · exact (B _).cells q x z
  lockd := fun {G H H1 v} h h1 h2 => by
    obtain ⟨a, u, w, G1, G2, eg, ev, ht, p, q⟩ := h
    have hm : ∀ x ∈ G, ∃ o, H x = some o ∧ Mut (some o) := fun x hx => by
      rw [eg] at hx
      rcases List.mem_append.mp hx with z | z
      · exact (A _).cells p x z
      · exact (B _).cells q x z
    exact ⟨a, u, w, ev, lk_fzs hm h1 _ _ trivial ht, (A _).lockdW p (fun x hx => by rw [eg]; exact List.mem_append_left _ hx) hm h1 h2, (B _).lockdW q (fun x hx => by rw [eg]; exact List.mem_append_right _ hx) hm h1 h2⟩
def oOpPr {α : Type} (D : α → Od) : Option α → List Addr → Hp → V → Prop
  | none => fun G _ v => G = [] ∧ v = .non
  | some x => (D x).pr
def oOp {α : Type} (D : α → Od) (o : Option α) : Od where
  pr := oOpPr D o
  pd := pOp (fun x => (D x).pd) o
  frame := fun {G H H' v} h k f => by
    cases o with
    | none => exact h
    | some x => exact (D x).frame h k f
  cells := fun {G H v} h => by
    cases o with
    | none =>
      obtain ⟨e, _⟩ := h
      subst e
      exact fun _ h => absurd h List.not_mem_nil
    | some x => exact (D x).cells h
  lockd := fun {G H H1 v} h h1 h2 => by
    cases o with
    | none => exact h.2
    | some x => exact (D x).lockd h h1 h2
section
variable {X : Cx} {W : Bool} {F : Fm} {Γ : Gm} {Δ : Δs} {γ : Type}
variable {N : Fn γ} {rest : List Stmt}
section
variable {κ α : Type} [DecidableEq κ] [Ky κ] {a b : Expr} {apos cpos : Pos} {β1 β2 : Type} {T : Option γ} {k1 : β1 → Option γ} {Δ1 : β1 → Δs} {Δ2 : β1 → β2 → Δs} {E1 : β1 → Pd} {Ee : α → Pd} {xs : β1 → β2 → List (κ × α)} {j : β1 → β2 → κ}
end
end
end L3
end
section
set_option maxHeartbeats 4000000
set_option autoImplicit true
namespace L3
open PySem PySem.Spec PyProof.Rows L2
section
variable {X : Cx} {W : Bool} {F : Fm} {Γ : Gm} {Δ : Δs} {γ : Type}
variable {N : Fn γ} {rest : List Stmt}
end
end L3
end
section
set_option maxHeartbeats 4000000
set_option autoImplicit true
namespace L3
open PySem PySem.Spec PyProof.Rows L2
def idxF : List Str → Str → Option Nat
  | [], _ => none
  | g :: r, f => if f = g then some 0 else (idxF r f).map (· + 1)
theorem lookup_zip {f : Str} {v : V} : ∀ {ns : List Str} {vs : List V} {i : Nat}, idxF ns f = some i → vs[i]? = some v → (ns.zip vs).lookup f = some v
  | [], _, _, h, _ => by cases h
  | g :: ns, [], _, _, e => by simp at e
  | g :: ns, w :: vs, i, h, e => by
    unfold idxF at h
    rw [List.zip_cons_cons]
    by_cases q : f = g
    · rw [if_pos q] at h
      cases h
      have hb : (f == g) = true := beq_iff_eq.mpr q
      simp only [List.lookup, hb]
      simpa using e
    · rw [if_neg q] at h
      have hb : (f == g) = false := beq_eq_false_iff_ne.mpr q
      simp only [List.lookup, hb]
      cases h2 : idxF ns f with
      | none => rw [h2] at h; cases h
      | some j =>
        rw [h2] at h
        cases h
        exact lookup_zip h2 (by simpa using e)
theorem lookup_zipN {f : Str} : ∀ {ns : List Str} {vs : List V}, idxF ns f = none → (ns.zip vs).lookup f = none
  | [], _, _ => rfl
  | g :: ns, [], _ => rfl
  | g :: ns, w :: vs, h => by
    unfold idxF at h
    rw [List.zip_cons_cons]
    by_cases q : f = g
    · rw [if_pos q] at h; cases h
    · rw [if_neg q] at h
      have hb : (f == g) = false := beq_eq_false_iff_ne.mpr q
      simp only [List.lookup, hb]
      cases h2 : idxF ns f with
      | none => exact lookup_zipN h2
      | some j => rw [h2] at h; cases h
theorem putF_zip {f : Str} {y : V} : ∀ {ns : List Str} {vs : List V}, ns.length = vs.length → idxF ns f = none → putF f y (ns.zip vs) = (ns ++ [f]).zip (vs ++ [y])
  | [], [], _, _ => rfl
  | [], _ :: _, h, _ => by cases h
  | _ :: _, [], h, _ => by cases h
  | g :: ns, w :: vs, h, e => by
    unfold idxF at e
    by_cases q : f = g
    · rw [if_pos q] at e; cases e
    · rw [if_neg q] at e
      have e2 : idxF ns f = none := by
        cases h2 : idxF ns f with
        | none => rfl
        | some j => rw [h2] at e; cases e
      show (if g = f then (g, y) :: ns.zip vs else (g, w) :: putF f y (ns.zip vs)) = _
      rw [if_neg fun z => q z.symm, putF_zip (by simpa using h) e2]
      rfl
def pI (mg : Str → Option Value) (cn : Str) (ns : List Str) (ps : List Pd) : Pd where
  pr H v := ∃ a o C dx vs, v = .ref a ∧ mg cn = some (.ref C) ∧ H a = some (.frz o (.ins C dx (ns.zip vs))) ∧ Paired (fun p u => Pd.pr p H u) ps vs
  mono := fun f ⟨a, o, C, dx, vs, e, g, h, p⟩ => ⟨a, o, C, dx, vs, e, g, f _ _ trivial h, paired_mono (fun x _ => x.mono f) p⟩
def oI (mg : Str → Option Value) (cn : Str) (ns : List Str) (ps : List Pd) : Od where
  pr G H v := ∃ a C dx vs, G = [a] ∧ v = .ref a ∧ mg cn = some (.ref C) ∧ H a = some (.ins C dx (ns.zip vs)) ∧ Paired (fun p u => Pd.pr p H u) ps vs
  pd := pI mg cn ns ps
  frame := fun ⟨a, C, dx, vs, eg, ev, g, h, q⟩ k f => ⟨a, C, dx, vs, eg, ev, g, k a (by rw [eg]; exact List.mem_singleton.mpr rfl) _ h, paired_mono (fun x _ => x.mono f) q⟩
  cells := fun ⟨a, C, dx, vs, eg, ev, g, h, q⟩ => one_cells eg h trivial
  lockd := fun ⟨a, C, dx, vs, eg, ev, g, h, q⟩ h1 h2 => by
    obtain ⟨o, ho⟩ := h2 a (by rw [eg]; exact List.mem_singleton.mpr rfl) _ h
    exact ⟨a, o, C, dx, vs, ev, g, ho, paired_mono (fun x _ => x.mono (lk_fzs (one_cells eg h trivial) h1)) q⟩
section
variable {X : Cx} {pins : List (Addr × Obj)} {σ : SS} {H : Hp} {s : Shared} {a C dx : Addr} {fs : List (Str × V)} {f : Str} {v : V} {A : Around} {E : Value → Shared → Prop}
theorem insF_get {P : Program} {w : World} {h : Heap} {ob : Obj} (hok : HOk P w H h) (e : H a = some (.frz ob (.ins C dx fs))) : ∃ mA, ObjM h a dx C mA ∧ ∀ f, RelO (fs.lookup f) (mA f) := by
  obtain ⟨_, d, z, ne, ob, mA, n, r, q⟩ := (show ObjOk P w H h a (.frz _ (.ins C dx fs)) from hok a _ e)
  exact ⟨mA, ⟨ob, n, ne⟩, r⟩
theorem getattrF_ok {b : Bool} {ob : Obj} {Q : Value → Shared → Prop} (I : Inv X pins σ H s) (e : H a = some (.frz ob (.ins C dx fs))) (c : Cls X.K C) (n : NoAttr X.K C f) (l : fs.lookup f = some v)
    (h : ∀ u s', Inv X pins σ H s' → RelV v u → Q u s') : wpAny (model X.prog X.w) A (getAttr (.ref a) f b) Q E s := by
  obtain ⟨mA, O, r⟩ := insF_get I.hok e
  obtain ⟨u, hu, ru⟩ := RelO.some_of (v := v) (o := mA f) (by rw [← l]; exact r f)
  exact get_map I.kIn O (c.get f) c.hd n hu (handed_of ru) (h u _ (I.tok _) ru)
end
def tFldF (K : PySem.W.Frag) (ta : TE) (f : Str) : TE := fun σ H Q => ta σ H fun x H1 => ∃ a o C dx fs v, x = .ref a ∧ H1 a = some (.frz o (.ins C dx fs)) ∧ Cls K C ∧ NoAttr K C f ∧ fs.lookup f = some v ∧ Q v H1
theorem pe_fldF {X : Cx} {e : Expr} {f : Str} {pos : Pos} {ta : TE} (he : PE X e ta) (hb : attributeBase e f X.env (eval e X.env) = eval e X.env) : PE X (.Attribute e f pos) (tFldF X.K ta f) := by
  refine ⟨fun pins s σ H Q I h => ?_⟩
  refine attr_of hb (thn (he.run pins s σ H _ I h) fun u s1 ⟨x, H1, I1, rx, a, o, C, dx, fs, v, ex, ea, c, n, l, q⟩ => ?_)
  subst ex
  obtain rfl : u = Value.ref a := rx
  exact getattrF_ok I1 ea c n l fun u' s2 I2 ru => ⟨v, H1, I2, ru, q⟩
section
variable {X : Cx} {CX : CXT} {k : Nat} {f : Addr} {fd : FuncData} {ps : List Str} {sp : Sp} {E : XK} {m : Str} {pos apos : Pos} {e o : Expr} {es : List Expr} {ta : TE} {t : TA}
end
section
variable {X : Cx} {W : Bool} {F : Fm} {Γ : Gm} {Δ : Δs} {γ : Type}
theorem x_fld {β α : Type} {e : Expr} {f cn : Str} {pos : Pos} {T : Option γ} {k : β → Option γ} {Δ1 : β → Δs} {ns : List Str} {ps : β → List Pd} {y : β → α} {C : Addr} (E : α → Pd) (i : Nat) (gc : X.mg cn = some (.ref C)) (c : Cls X.K C) (n : NoAttr X.K C f) (hi : idxF ns f = some i)
    (h1 : PE X e (tE W F Γ Δ T k (fun b => pI X.mg cn ns (ps b)) Δ1)) (hp : ∀ b, (ps b)[i]? = some (E (y b)) := by exact fun _ => rfl) (hb : attributeBase e f X.env (eval e X.env) = eval e X.env := by rfl) : PE X (.Attribute e f pos) (tE W F Γ Δ T k (fun b => E (y b)) Δ1) :=
  (pe_fldF h1 hb).wk fun σ H Q ⟨ok, g, e, q⟩ => ⟨ok, g, e, fun b v H' kb st ok' ⟨a, o, C', dx, vs, ev, g', h, p⟩ => by
    rw [gc] at g'
    cases g'
    obtain ⟨w, hw, pw⟩ := paired_at p (hp b)
    exact ⟨a, o, C, dx, _, w, ev, h, c, n, lookup_zip hi hw, q b w H' kb st ok' pw⟩⟩
variable {N : Fn γ} {rest : List Stmt}
theorem s_fld {o e : Expr} {f cn : Str} {pos pos' : Pos} {β0 β1 : Type} {T : Option γ} {k0 : β0 → Option γ} {k : β0 → β1 → Option γ} {Δ0 : β0 → Δs} {Δ1 : β0 → β1 → Δs} {E0 : β0 → Pd} {ns : List Str} {ps : β0 → β1 → List Pd} {v : V} {prm : Option Nat} {C : Addr} (j : Nat) (gc : X.mg cn = some (.ref C)) (c : Cls X.K C) (n : NoAttr X.K C f) (hi : idxF ns f = none) (hs1 : ns.length < 900)
    (he : PE X e (tE true F Γ Δ T k0 E0 Δ0)) (ho : ∀ b0, PE X o (tE true F Γ (Δ0 b0) (k0 b0) (k b0) (fun _ => pV v) (Δ1 b0)))
    (hj : ∀ b0 b1, (Δ1 b0 b1)[j]? = some ⟨v, oI X.mg cn ns (ps b0 b1), prm⟩) (hl : ∀ b0 b1, (ps b0 b1).length = ns.length)
    (hr : ∀ b0 b1, PSs X rest (tS F Γ ((Δ1 b0 b1).set j ⟨v, oI X.mg cn (ns ++ [f]) (ps b0 b1 ++ [E0 b0]), prm⟩) N (k b0 b1)))
    (hs : swapsWith e (some (.Attribute o f pos')) pos.line X.env = pure false := by rfl) :
    PSs X (.Assign [.Attribute o f pos'] e pos :: rest) (tS F Γ Δ N T) :=
  (pss_cons (ps_fld (pe_ex ho) he hs) (pss_ex fun b0 => pss_ex fun b1 => hr b0 b1)).wk fun D σ H ⟨ok, g, e, q⟩ => ⟨ok, g, e, fun b0 u H0 kb0 f0 ok0 hu => ⟨b0, ok0, g, kb0, fun b1 w H1 kb1 f1 ok1 hw => by
    have hw : w = v := hw
    subst hw
    obtain ⟨G, ⟨a, C', dx, vs, eG, ev, g', h, p⟩, nd, turn⟩ := ok1.cell (hj b0 b1)
    rw [gc] at g'
    cases g'
    have lz : ns.length = vs.length := by rw [← hl b0 b1]; exact paired_len p
    refine ⟨a, C, dx, _, ev, h, c, n, by rw [List.length_zip]; omega, b0, b1, ?_⟩
    have hu2 : (E0 b0).pr H1 u := (E0 b0).mono f1.fz hu
    rw [putF_zip lz hi]
    have fzm : Fzs H1 (upd H1 a (.ins C dx ((ns ++ [f]).zip (vs ++ [u])))) := Fzs.mut h fun z => z
    obtain ⟨ok3, f3⟩ := turn (upd H1 a (.ins C dx ((ns ++ [f]).zip (vs ++ [u])))) (oI X.mg cn (ns ++ [f]) (ps b0 b1 ++ [E0 b0])) (fun z o na e => by
      rw [upd_ne fun q => na (by
        show z ∈ G
        have eG : G = [a] := eG
        rw [eG, q]; exact List.mem_singleton.mpr rfl)]
      exact e) ⟨a, C, dx, vs ++ [u], eG, ev, gc, upd_same, paired_app (paired_mono (fun x _ => x.mono fzm) p) (.cons ((E0 b0).mono fzm hu2) .nil)⟩
    exact ⟨ok3, g, kb1, N.mono q ((f0.fz.trans f1.fz).trans f3.fz)⟩⟩⟩
end
theorem s_endI {X : Cx} {F : Fm} {Γ : Gm} {Δ : Δs} {ρ : Type} {P : ρ → Δs} (r : ρ) (hP : (P r).Sublist Δ) : PSs X [] (tS F Γ Δ (fI F P) (some r)) :=
  pss_nil.wk fun D σ H ⟨ok, g', e, f⟩ => by
    cases e
    exact f σ H (ok.hk.less hP)
def Sp_I {α ρ : Type} (mg : Str → Option Value) (cn : Str) (A : α → List Pd) (Mf : α → Option ρ) (ns : List Str) (R : ρ → List Pd) : Sp := fun vs H Q _ =>
  ∃ x v1 a, vs = .ref x :: v1 ∧ (oI mg cn [] []).pr [x] H (.ref x) ∧ Paired (fun p v => Pd.pr p H v) (A a) v1 ∧ ∃ r, Mf a = some r ∧ ∀ H', Hk ⟨H, [[x]]⟩ [⟨.ref x, oI mg cn ns (R r), some 0⟩] H' → Q .non H'
theorem fn_I {P : Program} {w : World} {K : PySem.W.Frag} {mg : Str → Option Value} {base : Heap} {x qual : Str} {params : Arguments} {body : List Stmt} {scope : Scope} {dvs : List V} {kws : List (Str × V)} {f : Addr} {fd : FuncData} {Nn ps : List Str} {k n : Nat} {α ρ : Type} {cn : Str} {A : α → List Pd} {Mf : α → Option ρ} {ns : List Str} {R : ρ → List Pd}
    (FD : FunD K x qual params body scope dvs kws f fd) (S : FnScope Nn ps scope) (hn : ∀ a, (A a).length = n) (hl : n + 1 = ps.length)
    (hb : ∀ (cdv : Value) (Ar : Around) (outer : List Env) (s : Shared) (H : Hp) (E : XK) (hr : Room k (Ar.deeper (envOfC qual scope s.heap.objs.size f cdv))) (x : Addr) (a : α), PSs (cxOf CX0 P w K mg base Nn qual scope f cdv Ar outer s H E).nox body
      (tS ⟨H, [[x]]⟩ ((pV (.ref x) :: A a).map some ++ List.replicate (Nn.length - (n + 1)) none) [⟨.ref x, oI mg cn [] [], some 0⟩] (fI ⟨H, [[x]]⟩ fun r => [⟨.ref x, oI mg cn ns (R r), some 0⟩]) (Mf a))) : FnOk P w K mg base CX0 (k + 1) f fd ps (Sp_I mg cn A Mf ns R) := by
  refine FD.ok S (fun vs H Q E h => ?_) (fun cdv Ar outer s H vs Q E hr h => ?_)
  · obtain ⟨x, v1, a, e, _, pv, _⟩ := h
    rw [e, List.length_cons, ← paired_len pv, hn, hl]
  · obtain ⟨x, v1, a, e, hx, pv, r, hM, fin⟩ := h
    subst e
    refine ⟨_, PSs.nox (hb cdv Ar outer s H E hr x a), ok_start (Δ := [⟨[x], .ref x, oI mg cn [] [], some 0⟩]) (by rw [List.length_cons, ← paired_len pv, hn]) (.cons rfl pv) ?_ ?_ ?_, r, hM, fun σ' H' h => fin H' h⟩
    · intro c hc; rw [List.mem_singleton.mp hc]; exact hx
    · rw [cellsOf_cons]; show ([x] ++ []).Nodup; simp
    · intro i c h
      match i, h with
      | 0, h => cases h; rfl
      | _ + 1, h => cases h
section
variable {X : Cx} {W : Bool} {F : Fm} {Γ : Gm} {Δ : Δs} {γ : Type}
theorem made_ok {α : Type} {H1 H' : Hp} {σ : SS} {x dx C : Addr} {d : Od} (ok : Ok F Γ Δ σ H1) (hx : H1 x = none) (hd : H1 dx = none) (ne : dx ≠ x) (hk : Hk ⟨upd (upd H1 dx (.own x)) x (.ins C dx []), [[x]]⟩ [⟨.ref x, d, some 0⟩] H') : OkN W F Γ H1 (.ref x) d Δ σ H' ∧ Gr H1 H' := by
  have g0 : Gr H1 (upd (upd H1 dx (.own x)) x (.ins C dx [])) := fun a o e => by
    rw [upd_ne (ne_of_none e hx), upd_ne (ne_of_none e hd)]; exact e
  obtain ⟨Δ0, e, hk⟩ := hk
  obtain ⟨G, e2⟩ := map_one e
  subst e2
  have g : Gr H1 H' := fun a o e => hk.base a o (g0 a o e) fun m hm ha => by
    rw [List.mem_singleton.mp hm] at ha
    rw [List.mem_singleton.mp ha, hx] at e
    cases e
  have nw : ∀ a ∈ G, H1 a = none := fun a ha => by
    rcases hk.own _ (List.mem_singleton.mpr rfl) a ha with z | ⟨i, m, z, hm, hin⟩
    · cases q : H1 a with
      | none => rfl
      | some o =>
        have z : upd (upd H1 dx (.own x)) x (.ins C dx []) a = none := z
        rw [g0 a o q] at z; cases z
    · cases z
      cases hm
      rw [List.mem_singleton.mp hin]; exact hx
  exact ⟨ok.add g hk.ndup.1 nw (hk.del _ (List.mem_singleton.mpr rfl)), g⟩
theorem x_make {fI kk} {fd : FuncData} {ps : List Str} {α ρ β : Type} {cn : Str} {A : α → List Pd} {Mf : α → Option ρ} {ns : List Str} {R : ρ → List Pd} {C : Addr} {p pos : Pos} {e : Expr} {es : List Expr} {T : Option γ} {xs : β → α} {kc : β × ρ → Option γ} {Δ1 : β → Δs} {D : β × ρ → Od}
    (M : Mk X.K C fI) (G : FnOk X.prog X.w X.K X.mg X.base CX0 kk fI fd ps (Sp_I X.mg cn A Mf ns R)) (hr : Room (kk + 1) X.A) (gc : X.mg cn = some (.ref C)) (hb : Binds X.K fd ps [])
    (ha : PA X (e :: es) (tAr W F Γ Δ T (fun b => (Mf (xs b)).bind fun r => kc (b, r)) (fun b => A (xs b)) Δ1)) (hD : ∀ b, oI X.mg cn ns (R b.2) = D b := by exact fun _ => rfl) (hg : Gl X cn := by rfl) (hdb : (cn == ("__debug__" : Str)) = false := by decide)
    (he : starEach (e :: es) X.env = (false, eval e X.env) :: starEach es X.env := by rfl) (hpl : (backTo pos (starEach es X.env)).any (·.1) = false := by rfl) :
    PE X (.Call (.Name cn p) (e :: es) [] pos) (tO W F Γ Δ T kc D fun b => Δ1 b.1) :=
  (pe_make M G hr hg gc hb .nil pass0 ha hdb he hpl).wk fun σ H Q ⟨ok, g, e, q⟩ => ⟨ok, g, e, fun b vs H1 kb st ok1 pv x dx hx hdx ne => by
    obtain ⟨r, er, kr⟩ := bind_some kb
    have g0 : Gr H1 (upd (upd H1 dx (.own x)) x (.ins C dx [])) := fun a o e => by
      rw [upd_ne (ne_of_none e hx), upd_ne (ne_of_none e hdx)]; exact e
    refine ⟨x, vs, xs b, by rw [List.append_nil], ⟨x, C, dx, [], rfl, rfl, gc, upd_same, .nil⟩, paired_mono (fun p _ h => p.mono g0.fzs h) pv, r, er, fun H' hk => ⟨rfl, ?_⟩⟩
    obtain ⟨okn, g1⟩ := made_ok (W := W) (α := α) ok1 hx hdx ne hk
    rw [hD (b, r)] at okn
    exact q (b, r) _ H' kr (st.trans g1.st) (okn.since st)⟩
end
end L3
end
section
set_option maxHeartbeats 4000000
set_option autoImplicit true
namespace L3
open PySem PySem.Spec PyProof.Rows L2
def pTN {α : Type} (E : α → Pd) (xs : List α) : Pd where
  pr H v := ∃ a o vs, v = .ref a ∧ H a = some (.frz o (.tup vs)) ∧ o.dict = none ∧ xs.length ≤ sizeLine ∧ Paired (fun x u => (E x).pr H u) xs vs
  mono := fun f ⟨a, o, vs, e, h, n, z, p⟩ => ⟨a, o, vs, e, f _ _ trivial h, n, z, paired_mono (fun x _ => (E x).mono f) p⟩
def dgTN {α : Type} {E : α → Pd} [DecidableEq α] (d : Dg E) : Dg (pTN E) := ⟨fun xs => .tuple (xs.map d.toD), fun ⟨a, o, vs, e, h, n, z, p⟩ => by rw [e]; exact .tup (.inl (.inr ⟨o, h⟩)) (gdp_all d p), d.dep + 1, fun xs => xs.all d.ok, fun xs h => gcan_all d xs h, fun xs => Nat.succ_le_succ (gdeep_all d xs), fun xs ys => geqv_all d xs ys⟩
section
variable {X : Cx} {W : Bool} {F : Fm} {Γ : Gm} {Δ : Δs} {γ : Type}
section
variable {a : Expr} {pos p : Pos} {β α : Type} {T : Option γ} {Δ1 : β → Δs} {E1 : β → Pd} {Ee : α → Pd} {xs : β → List α} {k : β → Option γ}
theorem x1l {e : Expr} {r : V → Hp → VK → Prop} {E : β → Pd} (h1 : Un1 X e a r) (ha : PE X a (tE W F Γ Δ T k E1 Δ1))
    (hv : ∀ b σ v H Q, Ok F Γ (Δ1 b) σ H → (E1 b).pr H v → (∀ u H', Gr H H' → (E b).pr H' u → Q u H') → r v H Q) : PE X e (tE W F Γ Δ T k E Δ1) :=
  (h1 _ ha).wk fun σ H Q ⟨ok, g, e, q⟩ => ⟨ok, g, e, fun b v H' kb f ok' hp => hv b σ v H' Q ok' hp fun u H2 g2 hu => q b u H2 kb (f.trans g2.st) (ok'.gr g2) hu⟩
theorem call_tuple_ofN : CallR X (.type "tuple") (fun xs H Q => ∃ p ys, xs = [.ref p] ∧ SqL X.K H p ys ∧ ∀ l o, H l = none → o.dict = none → Q (.ref l) (upd H l (.frz o (.tup ys)))) := by
  intro pins s σ H xs us Q I r h
  obtain ⟨p, ys, rfl, hq, q⟩ := h
  obtain ⟨u, rfl, rx⟩ := vals1 r
  cases rx
  obtain ⟨its, r', pl, hz⟩ := I.list hq
  have hlen := r'.length
  refine call_tuple_list pl.isList (fun h' kp => ?_) (by simp only [List.size_toArray] <;> omega)
  have I1 : Inv X pins σ H { s with heap := h' } := I.kept (t' := s.toks) kp
  have I2 : Inv X pins σ (upd H h'.objs.size (.frz { cls := .type "tuple", data := .seq its.toArray } (.tup ys))) { s with heap := h'.push { cls := .type "tuple", data := .seq its.toArray } } :=
    I1.laid (t' := s.toks) (fun b o e => Heap.get?_push_of_some _ e) (Nat.le_refl _) (show ObjOk X.prog X.w _ _ _ (.frz _ (.tup ys)) from ⟨Heap.get?_push_size _ rfl, hz, its, r', IsTup.new _ _⟩)
  exact ⟨.ref h'.objs.size, _, I2, rfl, q _ _ (I1.hok.fresh (Nat.le_refl _)) rfl⟩
theorem x_tupN (hm : X.mg "tuple" = none) (ha : PE X a (tE W F Γ Δ T k E1 Δ1)) (rd : ∀ b, RdL (Δ1 b) (E1 b) Ee (xs b)) (hg : Gl X "tuple" := by rfl) (hs : starEach [a] X.env = (false, eval a X.env) :: starEach [] X.env := by rfl) : PE X (.Call (.Name "tuple" p) [a] [] pos) (tE W F Γ Δ T k (fun b => pTN Ee (xs b)) Δ1) :=
  x1l (u_callTy call_tuple_ofN hg hm (by decide +kernel) (by decide) (by decide) hs) ha fun b σ v H Q ok hv q => by
    obtain ⟨p, vs, ev, sq, z, pr⟩ := (rd b F H v ok.hk hv).sq (K := X.K)
    rw [ev]
    exact ⟨p, vs, rfl, sq, fun l o hl hd => by
      have g : Gr H (upd H l (.frz o (.tup vs))) := Gr.new hl
      exact q _ _ g ⟨l, o, vs, rfl, upd_same, hd, z, paired_mono (fun x _ => (Ee x).mono g.fzs) pr⟩⟩
end
section
variable {a b : Expr} {pos : Pos} {β1 β2 α : Type} {T : Option γ} {k1 : β1 → Option γ} {Δ1 : β1 → Δs} {Δ2 : β1 → β2 → Δs} {E1 : β1 → Pd} {Ee : α → Pd} {xs : β1 → List α} {j : β1 → β2 → Int}
end
section
variable {a : Expr} {lo hi : Option Expr} {p2 pos : Pos} {β1 β2 β3 α : Type} {T : Option γ} {k1 : β1 → Option γ} {k2 : β1 → β2 → Option γ} {k : β1 × β2 × β3 → Option γ} {Ee : α → Pd} {xs : β1 → List α} {o1 : β1 → β2 → Option Int} {o2 : β1 → β2 → β3 → Option Int} {Δ1 : β1 → Δs} {Δ2 : β1 → β2 → Δs} {Δ3 : β1 → β2 → β3 → Δs}
end
section
variable {a b : Expr} {pos : Pos} {β1 β2 α : Type} {T : Option γ} {k1 : β1 → Option γ} {k : β1 × β2 → Option γ} {Δ1 : β1 → Δs} {Δ2 : β1 → β2 → Δs} {Ee : α → Pd} {xs : β1 → List α} {ys : β1 → β2 → List α}
end
section
variable {a b : Expr} {pos : Pos} {β1 β2 α : Type} [DecidableEq α] {T : Option γ} {k1 : β1 → Option γ} {k : β1 × β2 → Option γ} {Δ1 : β1 → Δs} {Δ2 : β1 → β2 → Δs} {E : α → Pd} {x : β1 → α} {y : β1 → β2 → List α}
end
section
variable {o e : Expr} {apos cpos : Pos} {β1 β2 : Type} {T : Option γ} {k1 : β1 → Option γ} {Δ1 : β1 → Δs} {Δ2 : β1 → β2 → Δs} {xs : β1 → List Str} {y : β1 → β2 → Str}
end
end
end L3
end
section
set_option maxHeartbeats 4000000
set_option autoImplicit true
namespace L3
open PySem PySem.Spec PyProof.Rows L2
section
variable {X : Cx} {W : Bool} {F : Fm} {Γ : Gm} {Δ : Δs} {γ : Type}
section
variable {a : Expr} {pos p : Pos} {β : Type} {T : Option γ} {Δ1 : β → Δs} {E1 : β → Pd} {xs : β → List (List Int)} {k : β × List Int → Option γ}
end
theorem s_never {st : List Stmt} {N : Fn γ} : PSs X st (tS F Γ Δ N (none : Option γ)) := ⟨fun _ _ _ _ _ _ ⟨_, _, e, _⟩ => nomatch e⟩
end
end L3
end
section
set_option maxHeartbeats 4000000
set_option autoImplicit true
namespace L3
open PySem PySem.Spec PyProof.Rows L2
open PySem.AutoSeq1 (wpAny_loadPart')
section
variable {prog : Program} {w : World} {A : Around} {E : Value → Shared → Prop} {s : Shared}
end
section
variable {X : Cx} {W : Bool} {F : Fm} {Γ : Gm} {Δ : Δs} {γ : Type}
section
variable {a b : Expr} {pos : Pos} {β1 β2 α : Type} [DecidableEq α] {T : Option γ} {k1 : β1 → Option γ} {k : β1 × β2 → Option γ} {Δ1 : β1 → Δs} {Δ2 : β1 → β2 → Δs} {E : α → Pd} {x : β1 → α} {y : β1 → β2 → List α} {E2 : β1 → β2 → Pd}
end
end
end L3
end
section
set_option maxHeartbeats 4000000
set_option autoImplicit true
namespace L3
open PySem PySem.Spec PyProof.Rows L2
section
variable {X : Cx} {W : Bool} {F : Fm} {Γ : Gm} {Δ : Δs} {γ : Type} {a : Expr} {n p pos} {β α1 α2 α3 α4 α5 : Type} {T : Option γ} {k : β → Option γ} {A1 : α1 → Pd} {A2 : α2 → Pd} {A3 : α3 → Pd} {A4 : α4 → Pd} {A5 : α5 → Pd} {Δ1 : β → Δs} {x : β → α1 × α2 × α3 × α4 × α5}
end
section
variable {X : Cx} {W : Bool} {F : Fm} {Γ : Gm} {Δ : Δs} {γ : Type} {a : Expr} {n p pos} {β α1 α2 α3 α4 α5 α6 : Type} {T : Option γ} {k : β → Option γ} {A1 : α1 → Pd} {A2 : α2 → Pd} {A3 : α3 → Pd} {A4 : α4 → Pd} {A5 : α5 → Pd} {A6 : α6 → Pd} {Δ1 : β → Δs} {x : β → α1 × α2 × α3 × α4 × α5 × α6}
end
section
variable {X : Cx} {W : Bool} {F : Fm} {Γ : Gm} {Δ : Δs} {γ : Type} {a : Expr} {n p pos} {β α1 α2 α3 α4 α5 α6 α7 : Type} {T : Option γ} {k : β → Option γ} {A1 : α1 → Pd} {A2 : α2 → Pd} {A3 : α3 → Pd} {A4 : α4 → Pd} {A5 : α5 → Pd} {A6 : α6 → Pd} {A7 : α7 → Pd} {Δ1 : β → Δs} {x : β → α1 × α2 × α3 × α4 × α5 × α6 × α7}
end
section
variable {X : Cx} {W : Bool} {F : Fm} {Γ : Gm} {Δ : Δs} {γ : Type}
section
variable {a : Expr} {n p p2 pos : Pos} {β α δ : Type} {T : Option γ} {k : β → Option γ} {E : α → Pd} {G : δ → Pd} {Δ1 : β → Δs}
end
variable {N : Fn γ} {rest : List Stmt}
end
end L3
end
section
set_option maxHeartbeats 4000000
set_option autoImplicit true
namespace L3
open PySem PySem.Spec PyProof.Rows L2 PySem.SxX
section
variable {X : Cx} {W : Bool} {F : Fm} {Γ : Gm} {Δ : Δs} {γ : Type}
end
section
variable {X : Cx} {CX : CXT} {k : Nat} {f C : Addr} {fd : FuncData} {ps : List Str} {sp : Sp} {x : Str} {p pos : Pos} {e : Expr} {es : List Expr} {t : TA}
end
section
variable {X : Cx} {W : Bool} {F : Fm} {Γ : Gm} {Δ : Δs} {γ ε : Type}
variable {fI : Addr} {kk : Nat} {fd : FuncData} {ps : List Str} {α ρ β : Type} {cn : Str} {A : α → List Pd} {Mf : α → Option (Except ε ρ)} {ns : List Str} {R : ρ → List Pd} {C : Addr} {p pos : Pos} {e : Expr} {es : List Expr} {T : Option γ} {xs : β → α} {kc : β × ρ → Option γ} {D : β × ρ → Od} {Kx : Xk ε}
end
section
variable {X : Cx} {F : Fm} {Γ : Gm} {Δ : Δs} {γ ε : Type} {N : Fn γ} {rest : List Stmt} {ιx : ε → γ} {Kx : Xk ε} {Δx : Δs} {Nx : SS → Hp → Prop} {Wx : WX}
end
end L3
end
section
set_option maxHeartbeats 4000000
set_option autoImplicit true
namespace L3
open PySem PySem.Spec PyProof.Rows L2
section
variable {X : Cx} {W : Bool} {F : Fm} {Γ : Gm} {Δ : Δs} {γ : Type}
end
section
variable {X : Cx} {W : Bool} {F : Fm} {Γ : Gm} {Δ : Δs} {γ : Type} {a : Expr} {pos p : Pos} {β : Type} {T : Option γ} {Δ1 : β → Δs} {E1 : β → Pd} {xs : β → List Int} {k : β × Int → Option γ}
end
def Sp__f {ρ : Type} (Mf : Option ρ) (Rp : ρ → Pd) : Sp := fun vs H Q _ => vs = [] ∧ ∃ r, Mf = some r ∧ RF ⟨H, []⟩ (fun _ => []) (Rp) r Q
theorem fn__f {P : Program} {w : World} {K : PySem.W.Frag} {mg : Str → Option Value} {base : Heap} {x qual : Str} {params : Arguments} {body : List Stmt} {scope : Scope} {dvs : List V} {kws : List (Str × V)} {f : Addr} {fd : FuncData} {N ps : List Str} {k : Nat} {ρ : Type} {Mf : Option ρ} {Rp : ρ → Pd}
    (FD : FunD K x qual params body scope dvs kws f fd) (S : FnScope N ps scope) (hl : 0 = ps.length)
    (hb : ∀ (cdv : Value) (A : Around) (outer : List Env) (s : Shared) (H : Hp) (E : XK) (hr : Room k (A.deeper (envOfC qual scope s.heap.objs.size f cdv))), PSs (cxOf CX0 P w K mg base N qual scope f cdv A outer s H E).nox body
      (tS ⟨H, []⟩ (([] : List Pd).map some ++ List.replicate (N.length - 0) none) [] (fF (RF ⟨H, []⟩ (fun _ => []) (Rp))) Mf)) : FnOk P w K mg base CX0 (k + 1) f fd ps (Sp__f Mf Rp) := by
  refine FD.ok S (fun vs H Q E h => ?_) (fun cdv A outer s H vs Q E hr h => ?_)
  · obtain ⟨rfl, _⟩ := h
    exact hl
  · obtain ⟨rfl, r, hM, fin⟩ := h
    exact ⟨_, PSs.nox (hb cdv A outer s H E hr), ok_start (Δ := []) rfl .nil (fun _ h => nomatch h) List.nodup_nil (fun _ _ h => nomatch h), r, hM, fin⟩
theorem x__f {X : Cx} {W : Bool} {F : Fm} {Γ : Gm} {Δ : Δs} {γ : Type} {x : Str} {p pos : Pos} {f : Addr} {fd : FuncData} {ps : List Str} {kk : Nat} {ρ : Type} {Mf : Option ρ} {Rp : ρ → Pd} {k : ρ → Option γ}
    (G : FnOk X.prog X.w X.K X.mg X.base CX0 kk f fd ps (Sp__f Mf Rp)) (hr : Room kk X.A) (hm : X.mg x = some (.ref f)) (hk : PySem.W.keepIn X.K (.ref f) = true) (hb : Binds X.K fd ps []) (hg : Gl X x := by rfl) (hdb : (x == ("__debug__" : Str)) = false := by decide) :
    PE X (.Call (.Name x p) [] [] pos) (tE W F Γ Δ (Mf.bind k) k (fun b => Rp b) fun _ => Δ) :=
  (pe_call0 G hr hg hm hk hb .nil pass0 hdb).wk fun σ H Q ⟨ok, g, e, q⟩ => by
    obtain ⟨r, er, kr⟩ := bind_some e
    refine ⟨rfl, r, er, fun v H' hk hv => ?_⟩
    obtain ⟨ok', st⟩ := call_f0 (W := W) ok hk
    exact q r v H' kr st ok' hv
end L3
end
section
set_option maxHeartbeats 4000000
set_option autoImplicit true
namespace L3
open PySem PySem.Spec PyProof.Rows L2 PySem.SxX
section
variable {X : Cx} {W : Bool} {F : Fm} {Γ : Gm} {Δ : Δs} {γ : Type}
theorem Ok.pop {σ : SS} {H : Hp} {c u : V} {α : Type} {D : α → Od} {x : α} {xs : List α} {us : List V} (ok : Ok F Γ (⟨c, oSeq D (x :: xs) (u :: us), none⟩ :: Δ) σ H) : Ok F Γ (⟨u, D x, none⟩ :: ⟨c, oSeq D xs us, none⟩ :: Δ) σ H := by
  obtain ⟨⟨Δ0, e, k⟩, n⟩ := ok
  cases Δ0 with
  | nil => cases e
  | cons c0 R =>
    have e1 : c0.fg :: R.map Cel.fg = ⟨c, oSeq D (x :: xs) (u :: us), none⟩ :: Δ := e
    injection e1 with e2 e3
    subst e3
    obtain ⟨G, cv, cd, cp⟩ := c0
    have f1 : cv = c := congrArg Cell.v e2
    have f2 : cd = oSeq D (x :: xs) (u :: us) := congrArg Cell.d e2
    have f3 : cp = none := congrArg Cell.prm e2
    subst f1 f2 f3
    obtain ⟨gs, eg, o3⟩ := k.del _ List.mem_cons_self
    have nd := k.ndup
    have own := k.own _ List.mem_cons_self
    have kR := k.less (.cons _ (List.Sublist.refl R))
    cases o3 with
    | cons r t =>
      rename_i g gs
      have eg : G = (g :: gs).flatten := eg
      subst eg
      have nd1 : (g ++ gs.flatten).Nodup := nd.1
      have nda := List.nodup_append.mp nd1
      have k2 := kR.cons (c := ⟨gs.flatten, cv, oSeq D xs us, none⟩) nda.2.1 (fun a ha => nd.2.2 a (by rw [List.flatten_cons]; exact List.mem_append_right _ ha)) ⟨gs, rfl, t⟩ fun a ha => own a (by rw [List.flatten_cons]; exact List.mem_append_right _ ha)
      have k3 := k2.cons (c := ⟨g, u, D x, none⟩) nda.1 (fun a ha hb => by
        rw [cellsOf_cons] at hb
        rcases List.mem_append.mp hb with z | z
        · exact nda.2.2 a ha a z rfl
        · exact nd.2.2 a (by rw [List.flatten_cons]; exact List.mem_append_left _ ha) z) r fun a ha => own a (by rw [List.flatten_cons]; exact List.mem_append_left _ ha)
      exact ⟨⟨_, rfl, k3⟩, n⟩
theorem Ok.swap {σ : SS} {H H' H0 : Hp} {v v' : V} {d d' : Od} (ok : Ok F Γ (⟨v, d, none⟩ :: Δ) σ H) (g : Gr H H') (h : ∀ G, d.pr G H v → G.Nodup → ∃ G' : List Addr, G'.Nodup ∧ (∀ a ∈ G', a ∈ G ∨ H a = none) ∧ d'.pr G' H' v') : OkN true F Γ H0 v' d' Δ σ H' := by
  obtain ⟨⟨Δ0, e, k⟩, n⟩ := ok
  cases Δ0 with
  | nil => cases e
  | cons c0 R =>
    have e1 : c0.fg :: R.map Cel.fg = ⟨v, d, none⟩ :: Δ := e
    injection e1 with e2 e3
    subst e3
    obtain ⟨G, cv, cd, cp⟩ := c0
    have f1 : cv = v := congrArg Cell.v e2
    have f2 : cd = d := congrArg Cell.d e2
    have f3 : cp = none := congrArg Cell.prm e2
    subst f1 f2 f3
    obtain ⟨G', nd', sub, hd'⟩ := h G (k.del _ List.mem_cons_self) k.ndup.1
    refine ⟨R, G', rfl, ((k.gr g).less (.cons _ (List.Sublist.refl R))).cons (c := ⟨G', v', d', none⟩) nd' (fun a ha hb => ?_) hd' (fun a ha => ?_), (fun z => nomatch z), n.mono g.fzs⟩
    · rcases sub a ha with z | z
      · exact k.ndup.2.2 a z hb
      · obtain ⟨o, eo, _⟩ := k.isC (a := a) (by rw [cellsOf_cons]; exact List.mem_append_right _ hb)
        rw [z] at eo; cases eo
    · rcases sub a ha with z | z
      · exact k.own _ List.mem_cons_self a z
      · exact .inl (k.fresh0 z)
theorem Own3.take {α : Type} {D : α → Od} {H : Hp} : ∀ (m : Nat) {xs : List α} {vs : List V} {gs : List (List Addr)}, Own3 D H xs vs gs → ∃ g2, Own3 D H (xs.take m) (vs.take m) g2 ∧ g2.flatten.Sublist gs.flatten
  | 0, _, _, _, _ => ⟨[], .nil, List.nil_sublist _⟩
  | _ + 1, _, _, _, .nil => ⟨[], .nil, List.nil_sublist _⟩
  | m + 1, _, _, _, .cons r t => by
    obtain ⟨g2, h, s⟩ := t.take m
    exact ⟨_ :: g2, .cons r h, by rw [List.flatten_cons, List.flatten_cons]; exact List.Sublist.append (List.Sublist.refl _) s⟩
theorem Own3.drop {α : Type} {D : α → Od} {H : Hp} : ∀ (m : Nat) {xs : List α} {vs : List V} {gs : List (List Addr)}, Own3 D H xs vs gs → ∃ g2, Own3 D H (xs.drop m) (vs.drop m) g2 ∧ g2.flatten.Sublist gs.flatten
  | 0, _, _, gs, h => ⟨gs, h, List.Sublist.refl _⟩
  | _ + 1, _, _, _, .nil => ⟨[], .nil, List.nil_sublist _⟩
  | m + 1, _, _, _, .cons r t => by
    obtain ⟨g2, h, s⟩ := t.drop m
    exact ⟨g2, h, by rw [List.flatten_cons]; exact s.trans (List.sublist_append_right _ _)⟩
section
variable {a : Expr} {n} {p pos : Pos} {β α1 α2 α3 α4 α5 : Type} {T : Option γ} {k : β → Option γ} {Δ1 : β → Δs} {A : α1 → Pd} {B : α2 → Pd} {C : α3 → Pd} {D : α4 → Pd} {E : α5 → Pd}
end
end
section
variable {P : Pd → V → Prop} {gV : List V → List V → List V} {As : List Pd} {vs zs : List V}
end
section
variable {X : Cx} {CX : CXT} {k n : Nat} {f C : Addr} {fd : FuncData} {ps ks : List Str} {sp : Sp} {x : Str} {p pos : Pos} {e : Expr} {es : List Expr} {kws : List Keyword} {t tk : TA} {g : List Value → List Value → List Value} {gV : List V → List V → List V}
theorem _root_.L2.PK.wk {t t' : TA} (h : PK X kws t) (w : ∀ σ H Q, t' σ H Q → t σ H Q) : PK X kws t' := ⟨fun pos pins s σ H Q I q => h.run pos pins s σ H Q I (w σ H Q q)⟩
end
section
variable {X : Cx} {W : Bool} {F : Fm} {Γ : Gm} {Δ : Δs} {γ ε : Type}
variable {fI : Addr} {kk n : Nat} {fd : FuncData} {ps ks : List Str} {α ρ β1 β2 : Type} {cn : Str} {A : α → List Pd} {Mf : α → Option (Except ε ρ)} {ns : List Str} {R : ρ → List Pd} {C : Addr} {p pos : Pos} {e : Expr} {es : List Expr} {kws : List Keyword} {T : Option γ} {kc : (β1 × β2) × ρ → Option γ} {D : (β1 × β2) × ρ → Od} {Kx : Xk ε} {g : List Value → List Value → List Value} {gV : List V → List V → List V}
end
end L3
end
section
set_option maxHeartbeats 4000000
set_option autoImplicit true
namespace L3
open PySem PySem.Spec PyProof.Rows L2 PySem.SxX L2H
structure FnQ (P : Program) (w : World) (K : PySem.W.Frag) (mg : Str → Option Value) (base : Heap) (CX : CXT) (k : Nat) (f : Addr) (fd : FuncData) (ps : List Str) (sp : Sp) : Prop where
  sz : ∀ vs H Q E, sp vs H Q E → vs.length = ps.length
  go : ∀ (A : Around) (outer : List Env) (s : Shared) (H : Hp) (args : Args) (us : List Value) (vs : List V) (Q : VK) (E : XK) (p : Addr × Obj), RoomH k A → PinOk outer H s p → Env0 P w K mg base A outer s H → BindsTo s fd args (ps.zip us) → Vals vs us → sp vs H Q E → codeAny (model P w) A (.call (.ref f) args) (CR CX outer P w H s Q E) s
section
variable {P : Program} {w : World} {K : PySem.W.Frag} {mg : Str → Option Value} {base : Heap} {CX : CXT} {k : Nat} {f : Addr} {fd : FuncData} {N ps : List Str} {sp : Sp} {x qual : Str} {params : Arguments} {body : List Stmt} {scope : Scope} {dvs : List V} {kws : List (Str × V)}
theorem fn_ofQ (FD : FunD K x qual params body scope dvs kws f fd) (S : FnScope N ps scope) (sz : ∀ vs H Q E, sp vs H Q E → vs.length = ps.length)
    (hB : ∀ (cdv : Value) (A : Around) (outer : List Env) (s : Shared) (H : Hp) (vs : List V) (Q : VK) (E : XK) (p : Addr × Obj), RoomH k (A.deeper (envOfC qual scope s.heap.objs.size f cdv)) → sp vs H Q E → ∃ t, PSs (cxH CX P w K mg base N qual scope f cdv A outer s H E p) body t ∧ t { nx := fun _ H' => Q .non H', rt := Q } (L2.start N vs) H) : FnQ P w K mg base CX (k + 1) f fd ps sp := by
  obtain ⟨oc, od, dV, kV, doc, pm, an, cdv, ct, osl, rfl, lk, hcd, _, _⟩ := FD.ex
  refine ⟨sz, fun A outer s H args us vs Q E p hr hp e0 hb r hsp => ?_⟩
  have KX : K.In s.heap := e0.mod.kin.keeps fun b o e => (e0.bs b o e).1
  have hl : vs.length = ps.length := sz _ _ _ _ hsp
  have kd : ∀ y ∈ ps.zip us, scope.names.lookup y.1 = some .local ∨ (scope.names.lookup y.1 = some .cell ∧ ((cellsFrom (s.heap.objs.size + 1) scope.names []).lookup y.1).isSome = true) := fun y hy => by
    rcases S.par y.1 (List.of_mem_zip (a := y.1) (b := y.2) hy).1 with q | q
    · exact .inl q
    · exact .inr ⟨q, PySem.W.cellsFrom_some _ _ _ (.inl q)⟩
  refine codeAny_call_function hr.depth (KX _ _ lk) rfl S.co S.gen rfl (PySem.W.codeRec_of KX hcd) (hb _ _ _ _ (wpAny_newFunctionEnv_cells S.kind kd fun env he s1 x => ?_))
  subst he
  obtain ⟨t, ht, hq⟩ := hB cdv A outer s H vs Q E p (hr.deeper _) hsp
  have lim : s.heap.NoLimit := e0.mod.nolimit.keeps fun b o e => (e0.bs b o e).1
  refine ⟨lim.keeps x.toInCall.keep, codeAny_func (wpAny_mono (ht.run [] s1 (L2.start N vs) H _ (inv_startH S hp e0 hl r x) hq) (fun fl s' hs => ?_) fun e s' hs => hs)⟩
  cases fl with
  | next => obtain ⟨_, H', I', q⟩ := hs; exact ⟨V.non, H', I'.os, I'.bare, I'.base, I'.hok, rfl, q⟩
  | ret v => obtain ⟨x', σ', H', I', rv, q⟩ := hs; exact ⟨x', H', I'.os, I'.bare, I'.base, I'.hok, rv, q⟩
  | brk => obtain ⟨_, _, _, q⟩ := hs; exact False.elim q
  | cont => obtain ⟨_, _, _, q⟩ := hs; exact False.elim q
def SpQ1 {α ρ : Type} (E1 : α → Pd) (Mf : α → Option ρ) (Rp : ρ → Pd) : Sp := fun vs H Q _ => ∃ (v1 : V) (a1 : α), vs = [v1] ∧ (E1 a1).pr H v1 ∧ ∃ r, Mf a1 = some r ∧ RF ⟨H, []⟩ (fun _ => []) Rp r Q
theorem fn_Q1 {α ρ : Type} {E1 : α → Pd} {Mf : α → Option ρ} {Rp : ρ → Pd} (FD : FunD K x qual params body scope dvs kws f fd) (S : FnScope N ps scope) (hl : 1 = ps.length)
    (hB : ∀ (cdv : Value) (A : Around) (outer : List Env) (s : Shared) (H : Hp) (E : XK) (p : Addr × Obj) (hr : RoomH k (A.deeper (envOfC qual scope s.heap.objs.size f cdv))) (a1 : α), PSs (cxH L2.CX0 P w K mg base N qual scope f cdv A outer s H E p) body
      (tS ⟨H, []⟩ (([E1 a1] : List Pd).map some ++ List.replicate (N.length - 1) none) [] (fF (RF ⟨H, []⟩ (fun _ => []) Rp)) (Mf a1))) : FnQ P w K mg base L2.CX0 (k + 1) f fd ps (SpQ1 E1 Mf Rp) := by
  refine fn_ofQ FD S (fun vs H Q E h => ?_) fun cdv A outer s H vs Q E p hr h => ?_
  · obtain ⟨v1, a1, rfl, _⟩ := h
    exact hl
  · obtain ⟨v1, a1, rfl, p1, r, hM, fin⟩ := h
    refine ⟨_, hB cdv A outer s H E p hr a1, ok_start (Δ := []) rfl (.cons p1 (.nil)) ?_ ?_ ?_, r, hM, fin⟩
    · exact fun _ h => nomatch h
    · exact List.nodup_nil
    · exact fun _ _ h => nomatch h
end
section
variable {X : Cx} {CX : CXT} {k : Nat} {f : Addr} {fd : FuncData} {ps : List Str} {sp : Sp}
theorem run_fnQ {E : XK} {pins : List (Addr × Obj)} {σ : SS} {H : Hp} {s : Shared} {Q : VK} {us : List Value} {vs : List V} (G : FnQ X.prog X.w X.K X.mg X.base CX k f fd ps sp) (hr : RoomH k X.A) {p : Addr × Obj} (hp : p ∈ X.pn) (hb : Binds X.K fd ps []) (hx : PassesAt CX X σ E) (I : Inv X pins σ H s) (r : Vals vs us) (h : sp vs H Q E) : wpAny (model X.prog X.w) X.A (call (.ref f) us) (EP X pins σ Q) X.xe s := by
  have hl : (us ++ []).length = ps.length := by rw [List.append_nil, ← r.length]; exact G.sz _ _ _ _ h
  have bn := hb s us I.kIn hl; rw [List.append_nil] at bn
  have J := I.pin p (List.mem_append_left _ hp)
  have pok : PinOk X.stack H s p := ⟨J.1, J.2.1, fun hm => (List.mem_cons.mp (I.stkSub p.1 hm)).elim J.2.2.1 J.2.2.2.1, J.2.2.2.2⟩
  refine wpAny_call (codeAny_mono (G.go X.A X.stack s H ⟨us, []⟩ us vs Q E p hr pok I.env0 bn r h) fun o s' ho => ?_)
  match o, ho with
  | .error w, ho => exact hx pins _ _ w s' I ho
  | .ok (.ret u), ho => exact I.after ho
  | .ok .next, ho => exact False.elim ho
  | .ok .brk, ho => exact False.elim ho
  | .ok .cont, ho => exact False.elim ho
end
section
variable {X : Cx} {W : Bool} {F : Fm} {Γ : Gm} {Δ : Δs} {γ : Type}
theorem x_Q1 {x : Str} {q pos : Pos} {e1 : Expr} {f : Addr} {fd : FuncData} {ps : List Str} {kk : Nat} {α ρ β1 : Type} {E1 : α → Pd} {Mf : α → Option ρ} {Rp : ρ → Pd} {T : Option γ} {Δ1 : β1 → Δs} {x1 : β1 → α} {k : β1 × ρ → Option γ} {p : Addr × Obj} (hp : p ∈ X.pn)
    (G : FnQ X.prog X.w X.K X.mg X.base L2.CX0 kk f fd ps (SpQ1 E1 Mf Rp)) (hr : RoomH kk X.A) (hm : X.mg x = some (.ref f)) (hk : PySem.W.keepIn X.K (.ref f) = true) (hb : Binds X.K fd ps []) (h1 : PE X e1 (tE W F Γ Δ T (fun b1 => (Mf (x1 b1)).bind fun r => k (b1, r)) (fun b1 => E1 (x1 b1)) Δ1))
    (hg : Gl X x := by rfl) (hdb : (x == ("__debug__" : Str)) = false := by decide) (st1 : starEach [e1] X.env = (false, eval e1 X.env) :: starEach [] X.env := by rfl) (hpl : (backTo pos (starEach [] X.env)).any (·.1) = false := by rfl) :
    PE X (.Call (.Name x q) [e1] [] pos) (tE W F Γ Δ T k (fun b => Rp b.2) fun b => Δ1 b.1) :=
  (show PE X (.Call (.Name x q) [e1] [] pos) (tCallS (SpQ1 E1 Mf Rp) (fun _ => fun _ _ _ => False) (tCons (tE W F Γ Δ T (fun b1 => (Mf (x1 b1)).bind fun r => k (b1, r)) (fun b1 => E1 (x1 b1)) Δ1) tNil)) from
    ⟨fun pins s σ H Q I h => wpAny_Call_Name_kw (ld_glob I hg hm (PySem.W.callWith_K (h₀ := X.base) I.ok.mod.kin hk (thn ((pa_cons h1 pa_nil st1).run pos pins s σ H _ I h) fun us s1 ⟨vs, H1, I1, r, q⟩ => ⟨I1.kIn, run_fnQ G hr hp hb (fun _ _ _ _ _ _ z => False.elim z) I1 r q⟩) st1 hpl) hdb)⟩).wk fun σ H Q ⟨ok, g, e, q⟩ => ⟨ok, g, e, fun b1 v1 H1 kb1 f1 ok1 hv1 => by
    obtain ⟨r, er, kr⟩ := bind_some kb1
    refine ⟨v1, x1 b1, rfl, hv1, r, er, fun v H' hk hv => ?_⟩
    obtain ⟨ok', st⟩ := call_f0 (W := W) ok1 hk
    exact q (b1, r) v H' kr (f1.trans st) ok' hv⟩
end
theorem roomS {X : Cx} {j k : Nat} {a : Addr} {pn : List (Addr × Obj)} (r : Room k X.A) (h : j ≤ k) : RoomH j (X.suite a pn).A := ⟨(roomH_of (r.mono h)).dp, (roomH_of (r.mono h)).un⟩
end L3
end
section
set_option maxHeartbeats 4000000
set_option autoImplicit true
namespace L3
open PySem PySem.Spec PyProof.Rows L2
section
variable {X : Cx} {W : Bool} {F : Fm} {Γ : Gm} {Δ : Δs} {γ : Type}
end
end L3
end
section
set_option maxHeartbeats 4000000
set_option autoImplicit true
namespace L3
open PySem PySem.Spec PyProof.Rows L2
theorem paired_pd {H : Hp} : ∀ {ds : List Od} {vs : List V}, Paired (fun d u => (Od.pd d).pr H u) ds vs → Paired (fun p u => Pd.pr p H u) (ds.map Od.pd) vs
  | _, _, .nil => .nil
  | _, _, .cons r t => .cons r (paired_pd t)
def oIO (mg : Str → Option Value) (cn : Str) (ns : List Str) (ds : List Od) : Od where
  pr G H v := ∃ a C dx vs gs, G = a :: gs.flatten ∧ v = .ref a ∧ mg cn = some (.ref C) ∧ H a = some (.ins C dx (ns.zip vs)) ∧ Own3 (fun d : Od => d) H ds vs gs
  pd := pI mg cn ns (ds.map Od.pd)
  frame := fun {G H H' v} h k f => by
    obtain ⟨a, C, dx, vs, gs, eg, ev, g, h, q⟩ := h
    exact ⟨a, C, dx, vs, gs, eg, ev, g, k a (by rw [eg]; exact List.mem_cons_self) _ h, q.frame f fun z hz => k z (by rw [eg]; exact List.mem_cons_of_mem _ hz)⟩
  cells := fun {G H v} hh z hz => by
    obtain ⟨a, C, dx, vs, gs, eg, ev, g, h, q⟩ := hh
    rw [eg] at hz
    rcases List.mem_cons.mp hz with e | hz
    · rw [e]; exact ⟨_, h, trivial⟩
    · exact q.cells z hz
  lockd := fun {G H H1 v} ⟨a, C, dx, vs, gs, eg, ev, g, h, q⟩ h1 h2 => by
    obtain ⟨o, ho⟩ := h2 a (by rw [eg]; exact List.mem_cons_self) _ h
    have hm : ∀ z ∈ G, ∃ o, H z = some o ∧ Mut (some o) := fun z hz => by
      rw [eg] at hz
      rcases List.mem_cons.mp hz with e | hz
      · rw [e]; exact ⟨_, h, trivial⟩
      · exact q.cells z hz
    exact ⟨a, o, C, dx, vs, ev, g, ho, paired_pd (q.lockd h1 h2 hm fun z hz => by rw [eg]; exact List.mem_cons_of_mem _ hz)⟩
section
variable {X : Cx} {W : Bool} {F : Fm} {Γ : Gm} {Δ : Δs} {γ : Type}
theorem x_fldVO {β α : Type} {e : Expr} {f cn : Str} {pos : Pos} {T : Option γ} {k : β → Option γ} {Δ1 : β → Δs} {ns : List Str} {ds : β → List Od} {y : β → α} {C : Addr} {v : V} {prm : Option Nat} (E : α → Pd) (i j : Nat) (gc : X.mg cn = some (.ref C)) (c : Cls X.K C) (n : NoAttr X.K C f) (hi : idxF ns f = some i)
    (h1 : PE X e (tE W F Γ Δ T k (fun _ => pV v) Δ1)) (hj : ∀ b, (Δ1 b)[j]? = some ⟨v, oIO X.mg cn ns (ds b), prm⟩ := by exact fun _ => rfl) (hp : ∀ b, (ds b)[i]? = some (oF E (y b)) := by exact fun _ => rfl) (hb : attributeBase e f X.env (eval e X.env) = eval e X.env := by rfl) : PE X (.Attribute e f pos) (tE W F Γ Δ T k (fun b => E (y b)) Δ1) :=
  (pe_fld h1 hb).wk fun σ H Q ⟨ok, g, e, q⟩ => ⟨ok, g, e, fun b u H' kb st ok' hu => by
    have hu : u = v := hu
    subst hu
    obtain ⟨G, a, C', dx, vs, gs, eg, ev, g', h, p⟩ := ok'.at (hj b)
    rw [gc] at g'
    cases g'
    obtain ⟨w, gw, hw, _, pw⟩ := p.at (hp b)
    exact ⟨a, C, dx, _, w, ev, h, c, n, lookup_zip hi hw, q b w H' kb st ok' pw.2⟩⟩
variable {N : Fn γ} {rest : List Stmt}
theorem s_fldO {o e : Expr} {f cn : Str} {pos pos' : Pos} {β0 β1 : Type} {T : Option γ} {k0 : β0 → Option γ} {k : β0 → β1 → Option γ} {Δ0 : β0 → Δs} {Δ1 : β0 → β1 → Δs} {D0 : β0 → Od} {ns : List Str} {ds : β0 → β1 → List Od} {v : V} {prm : Option Nat} {C : Addr} (j : Nat) (gc : X.mg cn = some (.ref C)) (c : Cls X.K C) (n : NoAttr X.K C f) (hi : idxF ns f = none) (hs1 : ns.length < 900)
    (he : PE X e (tO true F Γ Δ T k0 D0 Δ0)) (ho : ∀ b0 w, PE X o (tE true F Γ (⟨w, D0 b0, none⟩ :: Δ0 b0) (k0 b0) (k b0) (fun _ => pV v) (fun b1 => ⟨w, D0 b0, none⟩ :: Δ1 b0 b1)))
    (hj : ∀ b0 b1, (Δ1 b0 b1)[j]? = some ⟨v, oIO X.mg cn ns (ds b0 b1), prm⟩) (hl : ∀ b0 b1, (ds b0 b1).length = ns.length)
    (hr : ∀ b0 b1, PSs X rest (tS F Γ ((Δ1 b0 b1).set j ⟨v, oIO X.mg cn (ns ++ [f]) (ds b0 b1 ++ [D0 b0]), prm⟩) N (k b0 b1)))
    (hs : swapsWith e (some (.Attribute o f pos')) pos.line X.env = pure false := by rfl) :
    PSs X (.Assign [.Attribute o f pos'] e pos :: rest) (tS F Γ Δ N T) :=
  (pss_cons (ps_fld (pe_ex fun b0 => pe_ex (ho b0)) he hs) (pss_ex fun b0 => pss_ex fun b1 => hr b0 b1)).wk fun D σ H ⟨ok, g, e, q⟩ => ⟨ok, g, e, fun b0 u H0 kb0 f0 okn => ⟨b0, u, okn.ok, g, kb0, fun b1 w H1 kb1 f1 ok1 hw => by
    have hw : w = v := hw
    subst hw
    obtain ⟨G, Gn, ⟨a, C', dx, vs, gs, eG, ev, g', h, p⟩, pn, nd, turn⟩ := (ok1.okN (H0 := H1)).absorb (hj b0 b1)
    rw [gc] at g'
    cases g'
    have eG : G = a :: gs.flatten := eG
    subst eG
    have lz : ns.length = vs.length := by rw [← hl b0 b1]; exact p.len
    refine ⟨a, C, dx, _, ev, h, c, n, by rw [List.length_zip]; omega, b0, b1, ?_⟩
    rw [putF_zip lz hi]
    have pG : a ∉ gs.flatten := (List.nodup_cons.mp (List.nodup_append.mp nd).1).1
    have pN : a ∉ Gn := fun h => (List.nodup_append.mp nd).2.2 a List.mem_cons_self a h rfl
    have fzm : Fzs H1 (upd H1 a (.ins C dx ((ns ++ [f]).zip (vs ++ [u])))) := Fzs.mut h fun z => z
    have kp : ∀ z o, z ≠ a → H1 z = some o → upd H1 a (.ins C dx ((ns ++ [f]).zip (vs ++ [u]))) z = some o := fun z o na e => by rw [upd_ne na]; exact e
    have ef : (gs ++ [Gn]).flatten = gs.flatten ++ Gn := by rw [List.flatten_append, List.flatten_cons, List.flatten_nil, List.append_nil]
    obtain ⟨ok3, fz3, dom3⟩ := turn (upd H1 a (.ins C dx ((ns ++ [f]).zip (vs ++ [u])))) (oIO X.mg cn (ns ++ [f]) (ds b0 b1 ++ [D0 b0])) (a :: (gs ++ [Gn]).flatten) (fun z o na _ e => kp z o (fun q => na (by rw [q]; exact List.mem_cons_self)) e) (fun z ha => by
        have : ∃ o, H1 z = some o := by
          rcases ha with h' | h'
          · rcases List.mem_cons.mp h' with e | h'
            · rw [e]; exact ⟨_, h⟩
            · obtain ⟨o, e, _⟩ := p.cells z h'; exact ⟨o, e⟩
          · obtain ⟨o, e, _⟩ := (D0 b0).cells pn z h'; exact ⟨o, e⟩
        obtain ⟨o, e⟩ := this
        exact upd_dom _ _ z o e) (by rw [ef]; exact nd) (fun z ha => .inl (by
        rw [ef] at ha
        rcases List.mem_cons.mp ha with e | ha
        · exact .inl (by rw [e]; exact List.mem_cons_self)
        · rcases List.mem_append.mp ha with h | h
          · exact .inl (List.mem_cons_of_mem _ h)
          · exact .inr h)) ⟨a, C, dx, vs ++ [u], gs ++ [Gn], rfl, ev, gc, upd_same, (p.frame fzm fun z ha o e => kp z o (fun q => pG (by rw [← q]; exact ha)) e).app (D := fun d : Od => d) (y := D0 b0) ((D0 b0).frame pn (fun z ha o e => kp z o (fun q => pN (by rw [← q]; exact ha)) e) fzm)⟩
    exact ⟨ok3, g, kb1, N.mono q ((f0.fz.trans f1.fz).trans fz3)⟩⟩⟩
end
def Sp_IO {α ρ : Type} (mg : Str → Option Value) (cn : Str) (A : α → List Pd) (Mf : α → Option ρ) (ns : List Str) (R : ρ → List Od) : Sp := fun vs H Q _ =>
  ∃ x v1 a, vs = .ref x :: v1 ∧ (oIO mg cn [] []).pr [x] H (.ref x) ∧ Paired (fun p v => Pd.pr p H v) (A a) v1 ∧ ∃ r, Mf a = some r ∧ ∀ H', Hk ⟨H, [[x]]⟩ [⟨.ref x, oIO mg cn ns (R r), some 0⟩] H' → Q .non H'
theorem fn_IO {P : Program} {w : World} {K : PySem.W.Frag} {mg : Str → Option Value} {base : Heap} {x qual : Str} {params : Arguments} {body : List Stmt} {scope : Scope} {dvs : List V} {kws : List (Str × V)} {f : Addr} {fd : FuncData} {Nn ps : List Str} {k n : Nat} {α ρ : Type} {cn : Str} {A : α → List Pd} {Mf : α → Option ρ} {ns : List Str} {R : ρ → List Od}
    (FD : FunD K x qual params body scope dvs kws f fd) (S : FnScope Nn ps scope) (hn : ∀ a, (A a).length = n) (hl : n + 1 = ps.length)
    (hb : ∀ (cdv : Value) (Ar : Around) (outer : List Env) (s : Shared) (H : Hp) (E : XK) (hr : Room k (Ar.deeper (envOfC qual scope s.heap.objs.size f cdv))) (x : Addr) (a : α), PSs (cxOf CX0 P w K mg base Nn qual scope f cdv Ar outer s H E).nox body
      (tS ⟨H, [[x]]⟩ ((pV (.ref x) :: A a).map some ++ List.replicate (Nn.length - (n + 1)) none) [⟨.ref x, oIO mg cn [] [], some 0⟩] (fI ⟨H, [[x]]⟩ fun r => [⟨.ref x, oIO mg cn ns (R r), some 0⟩]) (Mf a))) : FnOk P w K mg base CX0 (k + 1) f fd ps (Sp_IO mg cn A Mf ns R) := by
  refine FD.ok S (fun vs H Q E h => ?_) (fun cdv Ar outer s H vs Q E hr h => ?_)
  · obtain ⟨x, v1, a, e, _, pv, _⟩ := h
    rw [e, List.length_cons, ← paired_len pv, hn, hl]
  · obtain ⟨x, v1, a, e, hx, pv, r, hM, fin⟩ := h
    subst e
    refine ⟨_, PSs.nox (hb cdv Ar outer s H E hr x a), ok_start (Δ := [⟨[x], .ref x, oIO mg cn [] [], some 0⟩]) (by rw [List.length_cons, ← paired_len pv, hn]) (.cons rfl pv) ?_ ?_ ?_, r, hM, fun σ' H' h => fin H' h⟩
    · intro c hc; rw [List.mem_singleton.mp hc]; exact hx
    · rw [cellsOf_cons]; show ([x] ++ []).Nodup; simp
    · intro i c h
      match i, h with
      | 0, h => cases h; rfl
      | _ + 1, h => cases h
section
variable {X : Cx} {W : Bool} {F : Fm} {Γ : Gm} {Δ : Δs} {γ : Type}
theorem x_makeO {fI kk} {fd : FuncData} {ps : List Str} {α ρ β : Type} {cn : Str} {A : α → List Pd} {Mf : α → Option ρ} {ns : List Str} {R : ρ → List Od} {C : Addr} {p pos : Pos} {e : Expr} {es : List Expr} {T : Option γ} {xs : β → α} {kc : β × ρ → Option γ} {Δ1 : β → Δs} {D : β × ρ → Od}
    (M : Mk X.K C fI) (G : FnOk X.prog X.w X.K X.mg X.base CX0 kk fI fd ps (Sp_IO X.mg cn A Mf ns R)) (hr : Room (kk + 1) X.A) (gc : X.mg cn = some (.ref C)) (hb : Binds X.K fd ps [])
    (ha : PA X (e :: es) (tAr W F Γ Δ T (fun b => (Mf (xs b)).bind fun r => kc (b, r)) (fun b => A (xs b)) Δ1)) (hD : ∀ b, oIO X.mg cn ns (R b.2) = D b := by exact fun _ => rfl) (hg : Gl X cn := by rfl) (hdb : (cn == ("__debug__" : Str)) = false := by decide)
    (he : starEach (e :: es) X.env = (false, eval e X.env) :: starEach es X.env := by rfl) (hpl : (backTo pos (starEach es X.env)).any (·.1) = false := by rfl) :
    PE X (.Call (.Name cn p) (e :: es) [] pos) (tO W F Γ Δ T kc D fun b => Δ1 b.1) :=
  (pe_make M G hr hg gc hb .nil pass0 ha hdb he hpl).wk fun σ H Q ⟨ok, g, e, q⟩ => ⟨ok, g, e, fun b vs H1 kb st ok1 pv x dx hx hdx ne => by
    obtain ⟨r, er, kr⟩ := bind_some kb
    have g0 : Gr H1 (upd (upd H1 dx (.own x)) x (.ins C dx [])) := fun a o e => by
      rw [upd_ne (ne_of_none e hx), upd_ne (ne_of_none e hdx)]; exact e
    refine ⟨x, vs, xs b, by rw [List.append_nil], ⟨x, C, dx, [], [], rfl, rfl, gc, upd_same, .nil⟩, paired_mono (fun p _ h => p.mono g0.fzs h) pv, r, er, fun H' hk => ⟨rfl, ?_⟩⟩
    obtain ⟨okn, g1⟩ := made_ok (W := W) (α := α) ok1 hx hdx ne hk
    rw [hD (b, r)] at okn
    exact q (b, r) _ H' kr (st.trans g1.st) (okn.since st)⟩
end
end L3
end
section
set_option maxHeartbeats 4000000
set_option autoImplicit true
namespace L3
open PySem PySem.Spec PyProof.Rows L2
section
variable {X : Cx} {W : Bool} {F : Fm} {Γ : Gm} {Δ : Δs} {γ : Type}
section
variable {a b : Expr} {pos : Pos} {β1 β2 : Type} {T : Option γ} {k1 : β1 → Option γ} {k : β1 × β2 → Option γ} {Δ1 : β1 → Δs} {Δ2 : β1 → β2 → Δs} {xs : β1 → List Int} {ys : β1 → β2 → List Int}
end
end
end L3
end
section
set_option maxHeartbeats 4000000
namespace L3
open PySem PySem.Spec PyProof.Rows L2
section
variable {prog : Program} {w : World} {A : Around} {R : Result → Shared → Prop} {s : Shared} {kx vx t0 i0 t1 i1 : Expr} {ifs0 ifs1 : List Expr} {scope : Scope} {pos : Pos} {it acc : Value} {env : Env}
end
end L3
end
section
set_option maxHeartbeats 4000000
namespace L3
open PySem PySem.Spec PyProof.Rows L2
section
variable {X : Cx}
end
end L3
end
section
set_option maxHeartbeats 4000000
namespace L3
open PySem PySem.Spec PyProof.Rows L2
section
variable {κ δ : Type} [DecidableEq κ] [Ky κ]
variable {X : Cx} {F : Fm} {Γ : Gm} {Δ : Δs} {γ : Type}
variable {α α2 β β4 β5 β6 : Type} {g g2 : TG} {own : List (Str × Nat)} {vs1 : List Nat} {T : Option γ} {k : β × List (κ × δ) → Option γ} {Ex : α → Pd} {Ex2 : α2 → Pd} {D : δ → Od} {bd : Gm → α → Gm} {bd2 : Gm → α2 → Gm} {xs : β → List α} {C : β → Δs} {f : β → α → Option (List (κ × δ))}
    {ys : β → α → β4 → List α2} {h : β → α → β4 → α2 → Option (κ × δ)} {T2 : β → α → β4 → α2 → β5 → Option (κ × δ)} {ky : β → α → β4 → α2 → β5 → κ} {vy : β → α → β4 → α2 → β5 → β6 → δ}
end
end L3
namespace L3
open PySem PySem.Spec PyProof.Rows L2
section
variable {X : Cx} {W : Bool} {F : Fm} {Γ : Gm} {Δ : Δs} {γ : Type}
end
end L3
end
section
set_option maxHeartbeats 4000000
set_option autoImplicit true
namespace L3
open PySem PySem.Spec PyProof.Rows L2
section
variable {X : Cx} {W : Bool} {F : Fm} {Γ : Gm} {Δ : Δs} {γ : Type}
end
end L3
end
section
set_option maxHeartbeats 4000000
set_option autoImplicit true
namespace L3
open PySem PySem.Spec PyProof.Rows L2
section
variable {X : Cx} {W : Bool} {F : Fm} {Γ : Gm} {Δ : Δs} {γ : Type}
variable {N : Fn γ}
end
end L3
end
section
set_option maxHeartbeats 4000000
set_option autoImplicit true
namespace L3
open PySem PySem.Spec PyProof.Rows L2
section
variable {α β α' β' δ : Type} {E : α → Pd} {G : β → Pd} {E' : α' → Pd} {G' : β' → Pd} {D : δ → Pd}
end
section
variable {X : Cx} {W : Bool} {F : Fm} {Γ : Gm} {Δ : Δs} {γ : Type}
theorem Foc.op {α : Type} {d : Od} {v : V} {A : α → Od} {x : Option α} {back : Option α → Od} {u : V} {H : Hp} {y : α} (f : Foc d v (oOp A) x back u H) (e : x = some y) : Foc d v A y (fun y => back (some y)) u H := fun H1 G g1 hd nd => by
  subst e
  obtain ⟨G2, h, sb, nd2, tr⟩ := f H1 G g1 hd nd
  exact ⟨G2, h, sb, nd2, fun H' y G3 kp fz nd3 ds h3 => tr H' (some y) G3 kp fz nd3 ds h3⟩
theorem Foc.snd {α β : Type} {d : Od} {v : V} {E : α → Pd} {D : β → Od} {x : α × β} {back : α × β → Od} {u : V} {H : Hp} {a : Addr} {z w : V} (f : Foc d v (oW E D) x back u H) (eu : u = .ref a) (ha : H a = some (.tup [z, w])) : Foc d v D x.2 (fun y => back (x.1, y)) w H := fun H1 G g1 hd nd => by
  obtain ⟨G2, ⟨a', z', w', eu', ha', p, q⟩, sb, nd2, tr⟩ := f H1 G g1 hd nd
  have eu' : u = .ref a' := eu'
  rw [eu] at eu'
  cases eu'
  rw [g1 _ _ ha] at ha'
  cases ha'
  refine ⟨G2, q, sb, nd2, fun H' y G3 kp fz nd3 ds h3 => tr H' (x.1, y) G3 kp fz nd3 ds ⟨a, z, w, eu, fz _ _ trivial (g1 _ _ ha), (E _).mono fz p, h3⟩⟩
section
variable {α β : Type} {E : α → Pd} {G : β → Pd} {A : α → Od} {B : β → Od}
end
section
variable {a b : Expr} {pos p : Pos} {β1 β2 : Type} {T : Option γ} {k1 : β1 → Option γ} {k : β1 × β2 → Option γ} {c : β1 → Bool} {d : β1 → β2 → Bool} {Δ1 : β1 → Δs} {Δ2 : β1 → β2 → Δs}
end
end
end L3
end
section
set_option maxHeartbeats 4000000
set_option autoImplicit true
namespace L3
open PySem PySem.Spec PyProof.Rows L2
section
variable {α β δ α' : Type} {A : α → Od} {B : β → Od} {D : δ → Od} {E : α → Pd} {E' : α' → Pd}
end
section
variable {X : Cx} {W : Bool} {F : Fm} {Γ : Gm} {Δ : Δs} {γ : Type}
end
end L3
end
section
set_option maxHeartbeats 4000000
set_option autoImplicit true
namespace L3
open PySem PySem.Spec PyProof.Rows L2
section
variable {X : Cx} {W : Bool} {F : Fm} {Γ : Gm} {Δ : Δs} {γ : Type}
section
variable {α β β2 β3 δ S : Type} {g : TG} {own : List (Str × Nat)} {T : Option γ} {k0 : β → Option γ} {k : β × (List δ × S) → Option γ} {out : β × (List δ × S) → List δ} {Ex : α → Pd} {Ee : δ → Pd} {bd : Gm → α → Gm} {xs : β → List α} {Δ1 : β → Δs} {C : β → S → Δs} {s0 : β → S} {f : β → α → S → Option (Option δ × S)}
    {c : β → α → S → β2 → Bool} {s2 : β → α → S → β2 → S} {T2 : β → α → S → β2 → Option (Option δ × S)} {y : β → α → S → β2 → β3 → δ} {s3 : β → α → S → β2 → β3 → S}
end
end
end L3
end
section
set_option maxHeartbeats 4000000
set_option autoImplicit true
namespace L3
open PySem PySem.Spec PyProof.Rows L2
section
variable {X : Cx} {W : Bool} {F : Fm} {Γ : Gm} {Δ : Δs} {γ : Type}
section
variable {a b : Expr} {pos : Pos} {β1 β2 : Type} {T : Option γ} {k1 : β1 → Option γ} {k : β1 × β2 → Option γ} {Δ1 : β1 → Δs} {Δ2 : β1 → β2 → Δs} {i : β1 → Int} {v0 : V} {xs : β1 → β2 → List Int} {prm : Option Nat}
end
variable {α ρ β1 β2 : Type} {fI : Addr} {kk n : Nat} {fd : FuncData} {ps ks : List Str} {cn : Str} {A : α → List Pd} {Mf : α → Option ρ} {ns : List Str} {R : ρ → List Pd} {C : Addr} {p pos : Pos} {e : Expr} {es : List Expr} {kws : List Keyword} {T : Option γ} {kc : (β1 × β2) × ρ → Option γ} {D : (β1 × β2) × ρ → Od} {g : List Value → List Value → List Value} {gV : List V → List V → List V}
end
end L3
end
section
set_option maxHeartbeats 4000000
set_option autoImplicit true
namespace L3
open PySem PySem.Spec PyProof.Rows L2
section
variable {X : Cx} {W : Bool} {F : Fm} {Γ : Gm} {Δ : Δs} {γ : Type}
theorem t_dl {β : Type} {e : Expr} {T : Option γ} {k : β → Option γ} {c : β → Bool} {Δ' Δ'' : β → Δs} (h : PT X e (tTs W F Γ Δ T k c Δ'')) (hD : ∀ b, Δ' b = Δ'' b := by intro _; rfl) : PT X e (tTs W F Γ Δ T k c Δ') := by
  have e1 : Δ' = Δ'' := funext hD
  subst e1
  exact h
end
end L3
end
section
set_option maxHeartbeats 4000000
set_option autoImplicit true
namespace L3
open PySem PySem.Spec PyProof.Rows L2
section
variable {X : Cx} {W : Bool} {F : Fm} {Γ : Gm} {Δ : Δs} {γ : Type}
end
end L3
end
section
set_option maxHeartbeats 1000000
namespace L3
open PySem PySem.Spec PyProof.Rows L2 RZ
open PySem.Sem (wp)
section
variable {w : World} {prog : Program} {s : Shared} {A : Around} {E : Value → Shared → Prop}
end
section
variable {w : World} {prog : Program} {s : Shared} {A : Around} {E : Value → Shared → Prop}
end
section
variable {X : Cx} {W : Bool} {F : Fm} {Γ : Gm} {Δ : Δs} {γ : Type}
end
end L3
end
section
set_option maxHeartbeats 4000000
set_option autoImplicit true
namespace L3
open PySem PySem.Spec PyProof.Rows L2
section
variable {α1 α2 α3 α4 α5 : Type} {A : α1 → Pd} {B : α2 → Pd} {C : α3 → Pd} {D : α4 → Pd} {E : α5 → Pd}
end
section
variable {X : Cx} {W : Bool} {F : Fm} {Γ : Gm} {Δ : Δs} {γ : Type}
end
structure Dh {α : Type} (ps : α → List Pd) where
  n : Nat
  len : ∀ x, (ps x).length = n
  dep : Nat
  ok : α → α → Bool
  eqv : α → α → Bool
  e : α → α → Nat → Bool
  es : ∀ x y, (List.range n).all (e x y) = eqv x y
  rc : ∀ {X : Cx} {pins : List (Addr × Obj)} {σ : SS} {H : Hp} {s : Shared}, Inv X pins σ H s → ∀ A : Around, A.units + dep < cLine → ∀ x y, ok x y = true → ∀ j p q, (ps x)[j]? = some p → (ps y)[j]? = some q → ∀ v u v' u', p.pr H v → q.pr H u → RelV v v' → RelV u u' → SeqAt.EqP X.prog X.w A.in1 s v' u' (e x y j)
  same : ∀ (H : Hp) x y vs, ok x y = true → Paired (fun p u => Pd.pr p H u) (ps x) vs → Paired (fun p u => Pd.pr p H u) (ps y) vs → eqv x y = true
section
variable {α1 α2 α3 α4 α5 : Type} {A : α1 → Pd} {B : α2 → Pd} {C : α3 → Pd} {D : α4 → Pd} {E : α5 → Pd}
end
section
variable {X : Cx} {W : Bool} {F : Fm} {Γ : Gm} {Δ : Δs} {γ : Type} {a b : Expr} {pos : Pos} {β1 β2 : Type} {T : Option γ} {k1 : β1 → Option γ} {k : β1 × β2 → Option γ} {Δ1 : β1 → Δs} {Δ2 : β1 → β2 → Δs}
end
section
variable {X : Cx} {W : Bool} {F : Fm} {Γ : Gm} {Δ : Δs} {γ : Type} {a b : Expr} {pos : Pos} {α β1 β2 : Type} {Ee : α → Pd} {T : Option γ} {k1 : β1 → Option γ} {k : β1 × β2 → Option γ} {Δ1 : β1 → Δs} {Δ2 : β1 → β2 → Δs}
end
section
variable {X : Cx} {W : Bool} {F : Fm} {Γ : Gm} {Δ : Δs} {γ : Type}
end
end L3
end
section
set_option maxHeartbeats 4000000
set_option autoImplicit true
namespace L3
open PySem PySem.Spec PyProof.Rows L2
section
variable {X : Cx} {W : Bool} {F : Fm} {Γ : Gm} {Δ : Δs} {γ ε : Type}
variable {fI : Addr} {kk : Nat} {fd : FuncData} {ps : List Str} {α ρ β : Type} {cn : Str} {A : α → List Pd} {Mf : α → Option (Except ε ρ)} {ns : List Str} {R : ρ → List Od} {C : Addr} {p pos : Pos} {e : Expr} {es : List Expr} {T : Option γ} {xs : β → α} {kc : β × ρ → Option γ} {D : β × ρ → Od} {Kx : Xk ε}
end
section
variable {X : Cx} {F : Fm} {Γ : Gm} {Δ : Δs} {γ ε : Type} {N : Fn γ} {rest : List Stmt} {ιx : ε → γ} {Kx : Xk ε} {Δx : Δs} {Nx : SS → Hp → Prop} {Wx : WX}
end
section
variable {X : Cx} {W : Bool} {F : Fm} {Γ : Gm} {Δ : Δs} {γ : Type}
variable {N : Fn γ}
end
section
variable {X : Cx} {W : Bool} {F : Fm} {Γ : Gm} {Δ : Δs} {γ : Type}
end
end L3
end
section
set_option maxHeartbeats 4000000
namespace L3
open PySem PySem.Spec PyProof.Rows L2
section
variable {Δ : Δs}
end
section
variable {X : Cx} {W : Bool} {F : Fm} {Γ : Gm} {Δ : Δs} {γ : Type}
end
section
variable {κ α : Type} [DecidableEq κ] [Ky κ] {X : Cx} {W : Bool} {F : Fm} {Γ : Gm} {Δ : Δs} {γ : Type} {N : Fn γ} {rest : List Stmt}
end
section
variable {X : Cx} {W : Bool} {F : Fm} {Γ : Gm} {Δ : Δs} {γ β : Type} {N : Fn γ} {rest : List Stmt}
end
end L3
end
section
set_option maxHeartbeats 4000000
namespace L3
open PySem PySem.Spec PyProof.Rows L2
section
variable {κ : Type} [DecidableEq κ] [Ky κ] {X : Cx} {F : Fm} {Γ : Gm} {Δ : Δs} {γ : Type}
end
section
variable {X : Cx} {F : Fm} {Γ : Gm} {Δ : Δs} {γ : Type}
end
section
variable {α1 α2 α3 : Type} {A : α1 → Pd} {B : α2 → Pd} {C : α3 → Pd}
end
section
variable {X : Cx} {W : Bool} {F : Fm} {Γ : Gm} {Δ : Δs} {γ : Type} {a b : Expr} {pos : Pos} {β1 β2 α : Type} {T : Option γ} {k1 : β1 → Option γ} {k : β1 × β2 → Option γ} {Δ1 : β1 → Δs} {Δ2 : β1 → β2 → Δs} {E : α → Pd} {x : β1 → α} {y : β1 → β2 → α}
end
end L3
end
section
set_option maxHeartbeats 4000000
namespace L3
open PySem PySem.Spec PyProof.Rows L2
section
variable {κ δ : Type} [DecidableEq κ] [Ky κ] {X : Cx} {F : Fm} {Γ : Gm} {Δ : Δs} {γ : Type}
variable {α β β2 β3 β4 : Type} {g : TG} {own : List (Str × Nat)} {T : Option γ} {k : β × List (κ × δ) → Option γ} {Ex : α → Pd} {D : δ → Od} {bd : Gm → α → Gm} {xs : β → List α} {Δ1 : β → Δs} {f : β → α → Option (Option (κ × δ))} {c : β → α → β2 → Bool} {T2 : β → α → β2 → Option (Option (κ × δ))} {T3 : β → α → β2 → β3 → Option (Option (κ × δ))} {ky : β → α → β2 → β3 → κ} {y : β → α → β2 → β3 → β4 → δ}
end
end L3
end
section
set_option maxHeartbeats 4000000
namespace L3
open PySem PySem.Spec PyProof.Rows L2
section
variable {κ δ : Type} [DecidableEq κ] [Ky κ] {X : Cx} {W : Bool} {F : Fm} {Γ : Gm} {Δ : Δs} {γ : Type}
variable {α β β2 β3 β4 : Type} {g : TG} {own : List (Str × Nat)} {T : Option γ} {k : β × List (κ × δ) → Option γ} {Ex : α → Pd} {E : δ → Pd} {bd : Gm → α → Gm} {xs : β → List α} {Δ1 : β → Δs} {f : β → α → Option (Option (κ × δ))} {c : β → α → β2 → Bool} {T2 : β → α → β2 → Option (Option (κ × δ))} {T3 : β → α → β2 → β3 → Option (Option (κ × δ))} {ky : β → α → β2 → β3 → κ} {y : β → α → β2 → β3 → β4 → δ}
end
end L3
end
section
set_option maxHeartbeats 4000000
namespace L3
open PySem PySem.Spec PyProof.Rows L2
section
variable {κ α : Type} [DecidableEq κ] [Ky κ]
variable {X : Cx} {W : Bool} {F : Fm} {Γ : Gm} {Δ : Δs} {γ : Type}
end
end L3
end
section
set_option maxHeartbeats 4000000
namespace L3
open PySem PySem.Spec PyProof.Rows L2
section
variable {κ α : Type} [DecidableEq κ] [Ky κ] {X : Cx} {W : Bool} {F : Fm} {Γ : Gm} {Δ : Δs} {γ : Type}
end
section
variable {X : Cx} {F : Fm} {Γ : Gm} {Δ : Δs} {γ : Type}
end
end L3
end
section
set_option maxHeartbeats 4000000
namespace L3
open PySem PySem.Spec PyProof.Rows L2
section
variable {X : Cx} {W : Bool} {F : Fm} {Γ : Gm} {Δ : Δs} {γ : Type}
variable {N : Fn γ}
end
end L3
end
section
set_option maxHeartbeats 4000000
namespace L3
open PySem PySem.Spec PyProof.Rows L2
section
variable {X : Cx} {W : Bool} {F : Fm} {Γ : Gm} {Δ : Δs} {γ : Type}
theorem Foc.t1 {α β : Type} {d : Od} {v : V} {A : α → Od} {B : β → Od} {x : α × β} {back : α × β → Od} {u : V} {H : Hp} {a : Addr} {z w : V} (f : Foc d v (oTT A B) x back u H) (eu : u = .ref a) (ha : H a = some (.tup [z, w])) : Foc d v B x.2 (fun y => back (x.1, y)) w H := fun H1 G g1 hd nd => by
  obtain ⟨G2, ⟨a', z', w', Ga, Gb, eg, eu', ha', p, q⟩, sb, nd2, tr⟩ := f H1 G g1 hd nd
  have eg : G2 = Ga ++ Gb := eg
  have eu' : u = .ref a' := eu'
  rw [eu] at eu'
  cases eu'
  rw [g1 _ _ ha] at ha'
  cases ha'
  subst eg
  obtain ⟨n1, n2, n3⟩ := List.nodup_append.mp nd2
  refine ⟨Gb, q, fun b hb => sb b (List.mem_append_right _ hb), n2, fun H' y G3 kp fz nd3 ds h3 => ?_⟩
  have dj : ∀ b ∈ Ga, b ∉ G3 := fun b hb h => by
    rcases ds b h with h | h
    · exact n3 b hb b h rfl
    · exact h (sb b (List.mem_append_left _ hb))
  have dab : ∀ b ∈ Ga, b ∉ Gb := fun b hb h => n3 b hb b h rfl
  obtain ⟨G', hb, nb, mb⟩ := tr H' (x.1, y) (Ga ++ G3) (fun b hb na o e => kp b hb (fun h => na (List.mem_append_right _ h)) o e) fz (List.nodup_append.mpr ⟨n1, nd3, fun b hb c hc e => dj b hb (by rw [e]; exact hc)⟩) (fun b hb => by
    rcases List.mem_append.mp hb with h | h
    · exact .inl (List.mem_append_left _ h)
    · exact (ds b h).imp (fun h => List.mem_append_right _ h) fun h => h) ⟨a, z, w, Ga, G3, rfl, eu, fz _ _ trivial (g1 _ _ ha), (A _).frame p (fun b hb o e => kp b (sb b (List.mem_append_left _ hb)) (dab b hb) o e) fz, h3⟩
  refine ⟨G', hb, nb, fun b hb' => ?_⟩
  rcases mb b hb' with ⟨h1, h2⟩ | h
  · exact .inl ⟨h1, fun h => h2 (List.mem_append_right _ h)⟩
  · rcases List.mem_append.mp h with h | h
    · exact .inl ⟨sb b (List.mem_append_left _ h), dab b h⟩
    · exact .inr h
theorem Foc.t0 {α β : Type} {d : Od} {v : V} {A : α → Od} {B : β → Od} {x : α × β} {back : α × β → Od} {u : V} {H : Hp} {a : Addr} {z w : V} (f : Foc d v (oTT A B) x back u H) (eu : u = .ref a) (ha : H a = some (.tup [z, w])) : Foc d v A x.1 (fun y => back (y, x.2)) z H := fun H1 G g1 hd nd => by
  obtain ⟨G2, ⟨a', z', w', Ga, Gb, eg, eu', ha', p, q⟩, sb, nd2, tr⟩ := f H1 G g1 hd nd
  have eg : G2 = Ga ++ Gb := eg
  have eu' : u = .ref a' := eu'
  rw [eu] at eu'
  cases eu'
  rw [g1 _ _ ha] at ha'
  cases ha'
  subst eg
  obtain ⟨n1, n2, n3⟩ := List.nodup_append.mp nd2
  refine ⟨Ga, p, fun b hb => sb b (List.mem_append_left _ hb), n1, fun H' y G3 kp fz nd3 ds h3 => ?_⟩
  have dj : ∀ b ∈ Gb, b ∉ G3 := fun b hb h => by
    rcases ds b h with h | h
    · exact n3 b h b hb rfl
    · exact h (sb b (List.mem_append_right _ hb))
  have dab : ∀ b ∈ Gb, b ∉ Ga := fun b hb h => n3 b h b hb rfl
  obtain ⟨G', hb, nb, mb⟩ := tr H' (y, x.2) (G3 ++ Gb) (fun b hb na o e => kp b hb (fun h => na (List.mem_append_left _ h)) o e) fz (List.nodup_append.mpr ⟨nd3, n2, fun b hb c hc e => dj c hc (by rw [← e]; exact hb)⟩) (fun b hb => by
    rcases List.mem_append.mp hb with h | h
    · exact (ds b h).imp (fun h => List.mem_append_left _ h) fun h => h
    · exact .inl (List.mem_append_right _ h)) ⟨a, z, w, G3, Gb, rfl, eu, fz _ _ trivial (g1 _ _ ha), h3, (B _).frame q (fun b hb o e => kp b (sb b (List.mem_append_right _ hb)) (dab b hb) o e) fz⟩
  refine ⟨G', hb, nb, fun b hb' => ?_⟩
  rcases mb b hb' with ⟨h1, h2⟩ | h
  · exact .inl ⟨h1, fun h => h2 (List.mem_append_left _ h)⟩
  · rcases List.mem_append.mp h with h | h
    · exact .inr h
    · exact .inl ⟨sb b (List.mem_append_right _ h), dab b h⟩
end
section
variable {X : Cx} {W : Bool} {F : Fm} {Γ : Gm} {Δ : Δs} {γ : Type}
end
section
variable {ε : Type} {Kx : Xk ε} {F : Fm} {Δx : Δs} {Nx : SS → Hp → Prop} {Wx : WX}
end
end L3
end
section
set_option maxHeartbeats 4000000
set_option autoImplicit true
namespace L3
open PySem PySem.Spec PyProof.Rows L2
section
variable {X : Cx} {W : Bool} {F : Fm} {Γ : Gm} {Δ : Δs} {γ : Type}
end
section
variable {X : Cx} {W : Bool} {F : Fm} {Γ : Gm} {Δ : Δs} {γ : Type}
variable {N : Fn γ}
def two {α : Type} : List α → Option (α × α)
  | [x, y] => some (x, y)
  | _ => none
end
section
variable {X : Cx} {W : Bool} {F : Fm} {Γ : Gm} {Δ : Δs} {γ : Type}
end
end L3
end
section
set_option maxHeartbeats 4000000
set_option autoImplicit true
namespace L3
open PySem PySem.Spec PyProof.Rows L2
section
variable {M : Model} {A : Around} {E : Value → Shared → Prop} {s : Shared} {K : PySem.W.Frag} {x C f : Addr} {ox : Obj} {od : Option Obj} {v : Value}
end
section
variable {X : Cx} {CX : CXT} {k : Nat} {f : Addr} {fd : FuncData} {ps : List Str} {sp : Sp} {E : XK}
end
section
variable {X : Cx} {W : Bool} {F : Fm} {Γ : Gm} {Δ : Δs} {γ : Type}
end
section
variable {prog : Program} {w : World} {A : Around} {E : Value → Shared → Prop} {s : Shared} {r d : Addr} {n : Nat} {P : Nat → Value → Prop} {OK : Heap → Prop}
end
section
variable {X : Cx} {W : Bool} {F : Fm} {Γ : Gm} {Δ : Δs} {γ : Type} {κ α : Type} [DecidableEq κ] [Ky κ]
end
section
variable {κ α : Type} [DecidableEq κ] [Ky κ]
end
section
variable {X : Cx} {W : Bool} {F : Fm} {Γ : Gm} {Δ : Δs} {γ : Type} {κ α : Type} [DecidableEq κ] [Ky κ]
end
section
variable {X : Cx} {W : Bool} {F : Fm} {Γ : Gm} {Δ : Δs} {γ ε : Type} {Kx : Xk ε} {ιx : ε → γ} {Wx : WX}
end
section
variable {X : Cx} {F : Fm} {Γ : Gm} {Δ : Δs} {γ : Type}
end
end L3
end
section
set_option maxHeartbeats 4000000
set_option autoImplicit true
namespace L3
open PySem PySem.Spec PyProof.Rows L2 PySem.SxX
section
variable {X : Cx} {x n x2 n2 : Str} {c c2 : Value} {i i2 : Nat} {body suite suite2 : List Stmt} {b₀ b₂ : Stmt} {np pos pos' np2 pos2 : Pos} {tb : WX → TS} {ts ts2 : Addr → Value → Option Addr → TS} {Wout : WX}
end
section
variable {X : Cx} {W : Bool} {F : Fm} {Γ : Gm} {Δ : Δs} {γ ε : Type} {Kx : Xk ε}
end
end L3
end
section
set_option maxHeartbeats 4000000
set_option autoImplicit true
namespace L3
open PySem PySem.Spec PyProof.Rows L2
def oNo : Od := oF (fun _ : Unit => pTrue) ()
def hole : Cell := ⟨.non, oNo, none⟩
section
variable {F : Fm} {Γ : Gm} {Δ : Δs} {σ : SS} {H : Hp} {j : Nat} {c : Cell}
theorem hole_perm {A B : List Cel} {x h : Cel} : (h :: (A ++ x :: B)).Perm (x :: (A ++ h :: B)) :=
  (List.Perm.cons h List.perm_middle).trans ((List.Perm.swap x h (A ++ B)).trans (List.Perm.cons x List.perm_middle.symm))
theorem HkO.hole {D : List Cel} (k : HkO F D H) : HkO F (⟨[], .non, oNo, none⟩ :: D) H := k.cons (c := ⟨[], .non, oNo, none⟩) List.nodup_nil (fun _ h => nomatch h) ⟨rfl, trivial⟩ fun _ h => nomatch h
theorem Ok.out (ok : Ok F Γ Δ σ H) (hj : Δ[j]? = some c) : Ok F Γ (c :: Δ.set j hole) σ H := by
  obtain ⟨⟨Δ0, e, k⟩, n⟩ := ok
  subst e
  obtain ⟨A, x, B, e0, el, ex⟩ := map_at hj
  subst e0 ex
  refine ⟨⟨x :: (A ++ ⟨[], .non, oNo, none⟩ :: B), ?_, k.hole.perm hole_perm⟩, n⟩
  rw [List.map_cons, ← el]
  exact congrArg (x.fg :: ·) map_set
theorem Ok.back (ok : Ok F Γ (c :: Δ) σ H) (hj : Δ[j]? = some hole) : Ok F Γ (Δ.set j c) σ H := by
  obtain ⟨⟨Δ0, e, k⟩, n⟩ := ok
  cases Δ0 with
  | nil => cases e
  | cons x R =>
    injection e with e1 e2
    subst e1 e2
    obtain ⟨A, h, B, e0, el, ex⟩ := map_at hj
    subst e0
    refine ⟨⟨A ++ x :: B, ?_, (k.perm (hole_perm (x := h) (h := x))).less (.cons _ (List.Sublist.refl _))⟩, n⟩
    rw [← el]
    exact map_set
end
def oCut {α : Type} (D : α → Od) (back : α → Od) (u : V) : Od where
  pr G1 H v := (∀ a ∈ G1, ∃ o, H a = some o ∧ Mut (some o)) ∧ ∀ (H' : Hp) (y : α) (G2 : List Addr), (∀ a ∈ G1, ∀ o, H a = some o → H' a = some o) → Fzs H H' → G2.Nodup → (∀ a ∈ G2, a ∉ G1) → (D y).pr G2 H' u → ∃ G', (back y).pr G' H' v ∧ G'.Nodup ∧ ∀ a ∈ G', a ∈ G1 ∨ a ∈ G2
  pd := pTrue
  frame := fun ⟨h1, h2⟩ k f => ⟨fun a ha => by
    obtain ⟨o, e, m⟩ := h1 a ha
    exact ⟨o, k a ha o e, m⟩, fun H2 y G2 k2 f2 => h2 H2 y G2 (fun a ha o e => k2 a ha o (k a ha o e)) (f.trans f2)⟩
  cells := fun h => h.1
  lockd := fun _ _ _ => trivial
section
variable {F : Fm} {Γ : Gm} {Δ : Δs} {σ : SS} {H : Hp} {j : Nat}
theorem Ok.two {v u : V} {d d1 d2 : Od} {prm : Option Nat} (ok : Ok F Γ Δ σ H) (hj : Δ[j]? = some ⟨v, d, prm⟩) (h : ∀ G, d.pr G H v → G.Nodup → ∃ G1 G2, d1.pr G1 H v ∧ d2.pr G2 H u ∧ (G2 ++ G1).Nodup ∧ ∀ a ∈ G2 ++ G1, a ∈ G) : Ok F Γ (⟨u, d2, prm⟩ :: Δ.set j ⟨v, d1, prm⟩) σ H := by
  obtain ⟨⟨Δ0, e, k⟩, n⟩ := ok
  subst e
  obtain ⟨A, x, B, e0, el, ex⟩ := map_at hj
  subst e0
  obtain ⟨G, xv, xd, xp⟩ := x
  have f1 : v = xv := (congrArg Cell.v ex).symm
  have f2 : d = xd := (congrArg Cell.d ex).symm
  have f3 : prm = xp := (congrArg Cell.prm ex).symm
  subst f1 f2 f3
  have k1 : HkO F (⟨G, v, d, prm⟩ :: (A ++ B)) H := k.perm mid_perm
  obtain ⟨n1, n2, n3⟩ := k1.ndup
  obtain ⟨G1, G2, p1, p2, nd, sb⟩ := h G (k1.del _ List.mem_cons_self) n1
  obtain ⟨m2, m1, m3⟩ := List.nodup_append.mp nd
  have own := k1.own _ List.mem_cons_self
  have kR : HkO F (A ++ B) H := k1.less (.cons _ (List.Sublist.refl _))
  have k2 := kR.cons (c := ⟨G1, v, d1, prm⟩) m1 (fun a ha => n3 a (sb a (List.mem_append_right _ ha))) p1 fun a ha => own a (sb a (List.mem_append_right _ ha))
  have k3 := k2.cons (c := ⟨G2, u, d2, prm⟩) m2 (fun a ha hb => by
    rw [cellsOf_cons] at hb
    rcases List.mem_append.mp hb with q | q
    · exact m3 a ha a q rfl
    · exact n3 a (sb a (List.mem_append_left _ ha)) q) p2 fun a ha => own a (sb a (List.mem_append_left _ ha))
  refine ⟨⟨⟨G2, u, d2, prm⟩ :: (A ++ ⟨G1, v, d1, prm⟩ :: B), ?_, HkO.perm (Δ := ⟨G2, u, d2, prm⟩ :: ⟨G1, v, d1, prm⟩ :: (A ++ B)) k3 (List.Perm.cons _ mid_perm.symm)⟩, n⟩
  rw [List.map_cons, ← el]
  exact congrArg (⟨u, d2, prm⟩ :: ·) (map_set (x := ⟨G, v, d, prm⟩) (y := ⟨G1, v, d1, prm⟩))
theorem Ok.one {v u : V} {d d1 d2 : Od} {prm : Option Nat} (ok : Ok F Γ (⟨u, d2, prm⟩ :: Δ) σ H) (hj : Δ[j]? = some ⟨v, d1, prm⟩) (h : ∀ G1 G2, d1.pr G1 H v → d2.pr G2 H u → (G2 ++ G1).Nodup → ∃ G, d.pr G H v ∧ G.Nodup ∧ ∀ a ∈ G, a ∈ G2 ++ G1) : Ok F Γ (Δ.set j ⟨v, d, prm⟩) σ H := by
  obtain ⟨⟨Δ0, e, k⟩, n⟩ := ok
  cases Δ0 with
  | nil => cases e
  | cons p R =>
    injection e with e1 e2
    subst e2
    obtain ⟨A, x, B, e0, el, ex⟩ := map_at hj
    subst e0
    obtain ⟨G1, xv, xd, xp⟩ := x
    obtain ⟨G2, pv, pd, pp⟩ := p
    have f1 : v = xv := (congrArg Cell.v ex).symm
    have f2 : d1 = xd := (congrArg Cell.d ex).symm
    have f3 : prm = xp := (congrArg Cell.prm ex).symm
    have f4 : u = pv := (congrArg Cell.v e1).symm
    have f5 : d2 = pd := (congrArg Cell.d e1).symm
    have f6 : prm = pp := (congrArg Cell.prm e1).symm
    subst f1 f2 f3 f4 f5 f6
    have k1 : HkO F (⟨G2, u, d2, prm⟩ :: ⟨G1, v, d1, prm⟩ :: (A ++ B)) H := k.perm (List.Perm.cons _ mid_perm)
    have k4 : HkO F (⟨G1, v, d1, prm⟩ :: (A ++ B)) H := k1.less (.cons _ (List.Sublist.refl _))
    obtain ⟨n1, n2, n3⟩ := k1.ndup
    obtain ⟨m1, m2, m3⟩ := k4.ndup
    rw [cellsOf_cons] at n3
    have nd : (G2 ++ G1).Nodup := List.nodup_append.mpr ⟨n1, m1, fun a ha b hb e => n3 a ha (List.mem_append_left _ (by rw [e]; exact hb))⟩
    obtain ⟨G, p, ndG, sb⟩ := h G1 G2 (k4.del _ List.mem_cons_self) (k1.del _ List.mem_cons_self) nd
    have o2 := k1.own _ List.mem_cons_self
    have o1 := k4.own _ List.mem_cons_self
    have kR : HkO F (A ++ B) H := k4.less (.cons _ (List.Sublist.refl _))
    have k5 := kR.cons (c := ⟨G, v, d, prm⟩) ndG (fun a ha hb => by
      rcases List.mem_append.mp (sb a ha) with q | q
      · exact n3 a q (List.mem_append_right _ hb)
      · exact m3 a q hb) p fun a ha => by
      rcases List.mem_append.mp (sb a ha) with q | q
      · exact o2 a q
      · exact o1 a q
    refine ⟨⟨A ++ ⟨G, v, d, prm⟩ :: B, ?_, HkO.perm (Δ := ⟨G, v, d, prm⟩ :: (A ++ B)) k5 mid_perm.symm⟩, n⟩
    rw [← el]
    exact map_set (x := ⟨G1, v, d1, prm⟩) (y := ⟨G, v, d, prm⟩)
theorem Ok.cut {α : Type} {v u : V} {d : Od} {prm : Option Nat} {D : α → Od} {x : α} {back : α → Od} (ok : Ok F Γ Δ σ H) (hj : Δ[j]? = some ⟨v, d, prm⟩) (f : Foc d v D x back u H) : Ok F Γ (⟨u, D x, prm⟩ :: Δ.set j ⟨v, oCut D back u, prm⟩) σ H :=
  ok.two hj fun G h nd => by
    obtain ⟨G2, h2, sb, nd2, tb⟩ := f H G (Gr.refl H) h nd
    have mf : ∀ a, a ∈ G.filter (fun a => decide (a ∉ G2)) ↔ a ∈ G ∧ a ∉ G2 := fun a => by simp [List.mem_filter]
    refine ⟨G.filter fun a => decide (a ∉ G2), G2, ⟨fun a ha => d.cells h a ((mf a).mp ha).1, fun H' y G3 k f nd3 ds p => ?_⟩, h2, List.nodup_append.mpr ⟨nd2, nd.sublist List.filter_sublist, fun a ha b hb e => ((mf b).mp hb).2 (by rw [← e]; exact ha)⟩, fun a ha => ?_⟩
    · obtain ⟨G', b1, b2, b3⟩ := tb H' y G3 (fun a ha na o e => k a ((mf a).mpr ⟨ha, na⟩) o e) f nd3 (fun a ha => by
        by_cases z : a ∈ G2
        · exact .inl z
        · exact .inr fun q => ds a ha ((mf a).mpr ⟨q, z⟩)) p
      exact ⟨G', b1, b2, fun a ha => (b3 a ha).imp (fun z => (mf a).mpr z) fun z => z⟩
    · rcases List.mem_append.mp ha with z | z
      · exact sb a z
      · exact ((mf a).mp z).1
theorem Ok.join {α : Type} {v u : V} {prm : Option Nat} {D : α → Od} {y : α} {back : α → Od} (ok : Ok F Γ (⟨u, D y, prm⟩ :: Δ) σ H) (hj : Δ[j]? = some ⟨v, oCut D back u, prm⟩) : Ok F Γ (Δ.set j ⟨v, back y, prm⟩) σ H :=
  ok.one hj fun G1 G2 h1 h2 nd => by
    obtain ⟨m2, m1, m3⟩ := List.nodup_append.mp nd
    obtain ⟨G', b1, b2, b3⟩ := h1.2 H y G2 (fun _ _ _ e => e) (Fzs.refl H) m2 (fun a ha hb => m3 a ha a hb rfl) h2
    exact ⟨G', b1, b2, fun a ha => List.mem_append.mpr ((b3 a ha).symm)⟩
theorem Ok.spl {mg : Str → Option Value} {cn : Str} {ns : List Str} {ds : List Od} {D : Od} {v : V} {prm : Option Nat} (i : Nat) (ok : Ok F Γ Δ σ H) (hj : Δ[j]? = some ⟨v, oIO mg cn ns ds, prm⟩) (hl : ds.length = ns.length) (hi : ds[i]? = some D) : ∃ u, Ok F Γ (⟨u, D, prm⟩ :: Δ.set j ⟨v, oIO mg cn ns (ds.set i (oF pV u)), prm⟩) σ H := by
  obtain ⟨G, a, C, dx, vs, gs, eg, ev, g, h, p⟩ := ok.at hj
  obtain ⟨u, gi, hu, hg, pu⟩ := p.at hi
  refine ⟨u, ok.two hj fun G' ⟨a', C', dx', vs', gs', eg', ev', g', h', p'⟩ nd => ?_⟩
  have ev2 : V.ref a = V.ref a' := ev.symm.trans ev'
  cases ev2
  rw [h] at h'
  have ez : ns.zip vs = ns.zip vs' := by injection h' with h'; injection h'
  have e1 := p.len
  have e2 := p'.len
  have evs : vs = vs' := by
    have := congrArg (List.map Prod.snd) ez
    rwa [List.map_snd_zip (by omega), List.map_snd_zip (by omega)] at this
  subst evs
  obtain ⟨u', gi', hu', hg', pu'⟩ := p'.at hi
  rw [hu] at hu'
  cases hu'
  subst eg'
  obtain ⟨na, ndG⟩ := List.nodup_cons.mp nd
  have hil : i < ds.length := (List.getElem?_eq_some_iff.mp hi).1
  obtain ⟨fs1, fs2⟩ := flat_set (g' := []) hg' ndG List.nodup_nil (fun _ h => nomatch h)
  have sg : ∀ z ∈ gi', z ∈ gs'.flatten := fun z hz => List.mem_flatten.mpr ⟨gi', List.mem_of_getElem? hg', hz⟩
  have ndg : gi'.Nodup := by
    obtain ⟨A, B, e, _⟩ := at_split hg'
    rw [e, List.flatten_append, List.flatten_cons] at ndG
    exact (List.nodup_append.mp (List.nodup_append.mp ndG).2.1).1
  have h := h
  refine ⟨a :: (gs'.set i []).flatten, gi', ⟨a, C, dx, vs, gs'.set i [], rfl, ev, g, h, ?_⟩, pu', List.nodup_append.mpr ⟨ndg, List.nodup_cons.mpr ⟨fun z => ?_, fs1⟩, fun z hz y hy e => ?_⟩, fun z hz => ?_⟩
  · have t := p'.turnG (D := fun d : Od => d) (y := oF pV u) (v := u) (g' := []) (Fzs.refl H) ⟨rfl, rfl⟩ ndG (fun _ _ _ _ e => e) hil hg'
    rwa [set_self' hu] at t
  · rcases fs2 a z with q | q
    · exact na q.1
    · cases q
  · subst e
    rcases List.mem_cons.mp hy with q | q
    · rw [q] at hz; exact na (sg a hz)
    · rcases fs2 z q with r | r
      · exact r.2 hz
      · cases r
  · rcases List.mem_append.mp hz with q | q
    · exact List.mem_cons_of_mem _ (sg z q)
    · rcases List.mem_cons.mp q with q | q
      · rw [q]; exact List.mem_cons_self
      · rcases fs2 z q with r | r
        · exact List.mem_cons_of_mem _ r.1
        · cases r
theorem Ok.unspl {mg : Str → Option Value} {cn : Str} {ns : List Str} {ds : List Od} {D : Od} {u v : V} {prm : Option Nat} (i : Nat) (ok : Ok F Γ (⟨u, D, prm⟩ :: Δ) σ H) (hj : Δ[j]? = some ⟨v, oIO mg cn ns ds, prm⟩) (hi : ds[i]? = some (oF pV u)) : Ok F Γ (Δ.set j ⟨v, oIO mg cn ns (ds.set i D), prm⟩) σ H :=
  ok.one hj fun G1 G2 ⟨a, C, dx, vs, gs, eg, ev, g, h, p⟩ h2 nd => by
    obtain ⟨w, gi, hw, hg, pw⟩ := p.at hi
    obtain ⟨eg0, ew⟩ := pw
    have ew : w = u := ew
    subst ew eg0 eg
    obtain ⟨m2, m1, m3⟩ := List.nodup_append.mp nd
    obtain ⟨na, ndG⟩ := List.nodup_cons.mp m1
    have hil : i < ds.length := (List.getElem?_eq_some_iff.mp hi).1
    obtain ⟨fs1, fs2⟩ := flat_set (g' := G2) hg ndG m2 (fun z hz => .inr fun q => m3 z hz z (List.mem_cons_of_mem _ q) rfl)
    refine ⟨a :: (gs.set i G2).flatten, ⟨a, C, dx, vs, gs.set i G2, rfl, ev, g, h, ?_⟩, List.nodup_cons.mpr ⟨fun z => ?_, fs1⟩, fun z hz => ?_⟩
    · have t := p.turnG (D := fun d : Od => d) (y := D) (v := w) (g' := G2) (Fzs.refl H) h2 ndG (fun _ _ _ _ e => e) hil hg
      rwa [set_self' hw] at t
    · rcases fs2 a z with q | q
      · exact na q.1
      · exact m3 a q a List.mem_cons_self rfl
    · rcases List.mem_cons.mp hz with q | q
      · rw [q]; exact List.mem_append_right _ List.mem_cons_self
      · rcases fs2 z q with r | r
        · exact List.mem_append_right _ (List.mem_cons_of_mem _ r.1)
        · exact List.mem_append_left _ r
end
end L3
end
section
set_option maxHeartbeats 4000000
set_option autoImplicit true
namespace L3
open PySem PySem.Spec PyProof.Rows L2
def Giv (H : Hp) (cs : List Cell) (Gs : List (List Addr)) : Prop := Paired (fun (c : Cell) G => c.d.pr G H c.v) cs Gs
def num : Nat → List Cell → Prop
  | _, [] => True
  | i, c :: cs => c.prm = some i ∧ num (i + 1) cs
def rp : List (Option Nat) → List Cell → List Cell
  | p :: ps, c :: cs => ⟨c.v, c.d, p⟩ :: rp ps cs
  | _, _ => []
def cels : List Cell → List (List Addr) → List Cel
  | c :: cs, G :: Gs => ⟨G, c.v, c.d, c.prm⟩ :: cels cs Gs
  | _, _ => []
theorem cels_ok {H : Hp} : ∀ {cs : List Cell} {Gs : List (List Addr)}, Giv H cs Gs → (cels cs Gs).map Cel.G = Gs ∧ (cels cs Gs).map Cel.fg = cs ∧ ∀ c ∈ cels cs Gs, c.d.pr c.G H c.v
  | [], [], .nil => ⟨rfl, rfl, fun _ h => nomatch h⟩
  | c :: cs, G :: Gs, .cons h t => by
    obtain ⟨a, b, d⟩ := cels_ok t
    refine ⟨congrArg (G :: ·) a, congrArg (c :: ·) b, fun x hx => ?_⟩
    rcases List.mem_cons.mp hx with e | hx
    · rw [e]; exact h
    · exact d x hx
theorem num_at : ∀ {cs : List Cell} {i j : Nat} {c : Cell}, num i cs → cs[j]? = some c → c.prm = some (i + j)
  | [], _, _, _, _, h => nomatch h
  | c :: cs, i, 0, _, n, h => by cases h; exact n.1
  | c :: cs, i, j + 1, _, n, h => by
    have := num_at (j := j) n.2 h
    rw [this, Nat.add_assoc, Nat.add_comm 1 j]
theorem cells_flat (L : List Cel) : cellsOf L = (L.map Cel.G).flatten := by
  unfold cellsOf
  rw [List.flatMap_def]
theorem giv_of {H : Hp} : ∀ {L : List Cel} {cs : List Cell} {P : List (Option Nat)}, L.map Cel.fg = rp P cs → P.length = cs.length → (∀ c ∈ L, c.d.pr c.G H c.v) → Giv H cs (L.map Cel.G) ∧ L.length = cs.length ∧ L.map Cel.prm = P
  | [], [], [], _, _, _ => ⟨.nil, rfl, rfl⟩
  | [], c :: cs, p :: P, e, _, _ => nomatch e
  | x :: L, [], [], e, _, _ => nomatch e
  | x :: L, c :: cs, p :: P, e, hl, h => by
    injection e with e1 e2
    obtain ⟨a, b, d⟩ := giv_of e2 (Nat.succ.inj hl) fun y hy => h y (List.mem_cons_of_mem _ hy)
    have hx := h x List.mem_cons_self
    obtain ⟨G, v, dd, pp⟩ := x
    have f1 : v = c.v := congrArg Cell.v e1
    have f2 : dd = c.d := congrArg Cell.d e1
    have f3 : pp = p := congrArg Cell.prm e1
    subst f1 f2 f3
    exact ⟨.cons hx a, congrArg (· + 1) b, congrArg (pp :: ·) d⟩
  | _ :: _, [], _ :: _, _, hl, _ => nomatch hl
  | _, _ :: _, [], _, hl, _ => nomatch hl
  | [], [], _ :: _, _, hl, _ => nomatch hl
def zipB : List Cel → List Cel → List Cel
  | c :: cs, d :: ds => ⟨d.G, d.v, d.d, c.prm⟩ :: zipB cs ds
  | _, _ => []
theorem zipB_ok : ∀ {L L' : List Cel} {cs : List Cell}, L'.map Cel.fg = cs → L'.length = L.length → (zipB L L').map Cel.fg = rp (L.map Cel.prm) cs ∧ (zipB L L').length = L.length ∧ ∀ (i : Nat) (c c' e : Cel), L[i]? = some c → L'[i]? = some c' → (zipB L L')[i]? = some e → e = ⟨c'.G, c'.v, c'.d, c.prm⟩
  | [], [], cs, h, _ => by subst h; exact ⟨rfl, rfl, fun i c c' e h => by simp at h⟩
  | c :: L, d :: L', cs, h, hl => by
    subst h
    obtain ⟨a, b, f⟩ := zipB_ok (L := L) (L' := L') rfl (Nat.succ.inj hl)
    refine ⟨congrArg (_ :: ·) a, congrArg (· + 1) b, fun i x x' e h1 h2 h3 => ?_⟩
    cases i with
    | zero => cases h1; cases h2; cases h3; rfl
    | succ i => exact f i x x' e h1 h2 h3
  | [], _ :: _, _, _, hl => nomatch hl
  | _ :: _, [], _, _, hl => nomatch hl
section
variable {F : Fm} {Γ : Gm} {Δ R : Δs} {σ : SS} {H : Hp}
theorem Ok.lendL {P : List (Option Nat)} {cs : List Cell} (ok : Ok F Γ (rp P cs ++ R) σ H) (hP : P.length = cs.length) : ∃ Gs, Giv H cs Gs ∧ Gs.flatten.Nodup ∧ (∀ H' cs', cs'.length = cs.length → num 0 cs' → Hk ⟨H, Gs⟩ cs' H' → Ok F Γ (rp P cs' ++ R) σ H' ∧ St true H H') ∧
    ∀ H' v d cs', cs'.length = cs.length → num 0 cs' → Hk ⟨H, Gs⟩ (⟨v, d, none⟩ :: cs') H' → OkN true F Γ H v d (rp P cs' ++ R) σ H' ∧ St true H H' := by
  obtain ⟨⟨Δ0, e, k⟩, n⟩ := ok
  obtain ⟨L, R0, rfl, e1, e2⟩ := List.map_eq_append_iff.mp e
  subst e2
  have k1 : HkO F L H := k.less (List.sublist_append_left _ _)
  obtain ⟨g1, g2, g3⟩ := giv_of e1 hP k1.del
  refine ⟨L.map Cel.G, g1, by rw [← cells_flat]; exact k1.nod, fun H' cs' hl hn hk => ?_, fun H' v d cs' hl hn hk => ?_⟩
  · obtain ⟨L', e3, hk⟩ := hk
    have hll : L'.length = L.length := by rw [g2, ← hl, ← e3, List.length_map]
    obtain ⟨z1, z2, z3⟩ := zipB_ok e3 hll
    obtain ⟨r, st, _⟩ := lendO (Δ1 := L) (Δ2 := R0) (N := []) (Δ1' := L') (Δ1o := zipB L L') k hk hll (fun i c h => by
      have h2 : cs'[i]? = some c.fg := by rw [← e3, List.getElem?_map, h]; rfl
      have := num_at hn h2
      rw [Nat.zero_add] at this
      exact this) (fun _ h => nomatch h) z2 z3
    rw [g3] at z1
    exact ⟨⟨⟨zipB L L' ++ R0, by rw [List.map_append, z1], r⟩, n.mono st.fz⟩, st⟩
  · obtain ⟨L0, e3, hk⟩ := hk
    cases L0 with
    | nil => cases e3
    | cons x L' =>
      injection e3 with e4 e3
      obtain ⟨G, xv, xd, xp⟩ := x
      have f1 : v = xv := (congrArg Cell.v e4).symm
      have f2 : d = xd := (congrArg Cell.d e4).symm
      have f3 : xp = none := congrArg Cell.prm e4
      subst f1 f2 f3
      have hll : L'.length = L.length := by rw [g2, ← hl, ← e3, List.length_map]
      obtain ⟨z1, z2, z3⟩ := zipB_ok e3 hll
      obtain ⟨r, st, _⟩ := lendO (Δ1 := L) (Δ2 := R0) (N := [⟨G, v, d, none⟩]) (Δ1' := L') (Δ1o := zipB L L') k hk hll (fun i c h => by
        have h2 : cs'[i]? = some c.fg := by rw [← e3, List.getElem?_map, h]; rfl
        have := num_at hn h2
        rw [Nat.zero_add] at this
        exact this) (fun c h => by rw [List.mem_singleton.mp h]) z2 z3
      rw [g3] at z1
      exact ⟨⟨zipB L L' ++ R0, G, by rw [List.map_append, z1], r, (fun h => nomatch h), n.mono st.fz⟩, st⟩
end
def SpN {α ρ : Type} (A : α → List Pd) (C : α → List Cell) (Mf : α → Option ρ) (Cr : α → ρ → List Cell) (Rp : ρ → Pd) : Sp := fun vs H Q _ => ∃ a Gs, Paired (fun p v => Pd.pr p H v) (A a) vs ∧ Giv H (C a) Gs ∧ Gs.flatten.Nodup ∧ ∃ r, Mf a = some r ∧ RF ⟨H, Gs⟩ (Cr a) Rp r Q
def SpXN {ε α ρ : Type} (A : α → List Pd) (C : α → List Cell) (Mf : α → Option (Except ε ρ)) (Cr : α → ρ → List Cell) (Rp : ρ → Pd) (Kx : Xk ε) (Cx : α → List Cell) : Sp := fun vs H Q E => ∃ a Gs, Paired (fun p v => Pd.pr p H v) (A a) vs ∧ Giv H (C a) Gs ∧ Gs.flatten.Nodup ∧ ∃ g, Mf a = some g ∧ match g with
  | .ok r => RF ⟨H, Gs⟩ (Cr a) Rp r Q
  | .error e => ∀ cls d H', Hk ⟨H, Gs⟩ (Cx a) H' → Kx.ok e cls d H' → E cls d H'
section
variable {P : Program} {w : World} {K : PySem.W.Frag} {mg : Str → Option Value} {base : Heap} {x qual : Str} {params : Arguments} {body : List Stmt} {scope : Scope} {dvs : List V} {kws : List (Str × V)} {f : Addr} {fd : FuncData} {Nn ps : List Str} {k n : Nat} {α ρ ε : Type} {A : α → List Pd} {C : α → List Cell} {Cr : α → ρ → List Cell}
theorem ok_startN {H : Hp} {a : α} {vs : List V} {Gs : List (List Addr)} (hn : (A a).length = n) (hC : num 0 (C a)) (pv : Paired (fun p v => Pd.pr p H v) (A a) vs) (gv : Giv H (C a) Gs) (nd : Gs.flatten.Nodup) : Ok ⟨H, Gs⟩ ((A a).map some ++ List.replicate (Nn.length - n) none) (C a) (L2.start Nn vs) H := by
  obtain ⟨c1, c2, c3⟩ := cels_ok gv
  have h := ok_start (N := Nn) (Δ := cels (C a) Gs) (n := n) (by rw [← paired_len pv, hn]) pv c3 (by rw [cells_flat, c1]; exact nd) fun i c h => by
    have h2 : (C a)[i]? = some c.fg := by rw [← c2, List.getElem?_map, h]; rfl
    have := num_at hC h2
    rw [Nat.zero_add] at this
    exact this
  rw [c1, c2] at h
  exact h
theorem fn_N {Mf : α → Option ρ} {Rp : ρ → Pd} (FD : FunD K x qual params body scope dvs kws f fd) (S : FnScope Nn ps scope) (hn : ∀ a, (A a).length = n) (hl : n = ps.length) (hC : ∀ a, num 0 (C a))
    (hb : ∀ (cdv : Value) (Ar : Around) (outer : List Env) (s : Shared) (H : Hp) (E : XK) (hr : Room k (Ar.deeper (envOfC qual scope s.heap.objs.size f cdv))) (Gs : List (List Addr)) (a : α), PSs (cxOf CX0 P w K mg base Nn qual scope f cdv Ar outer s H E).nox body
      (tS ⟨H, Gs⟩ ((A a).map some ++ List.replicate (Nn.length - n) none) (C a) (fF (RF ⟨H, Gs⟩ (Cr a) Rp)) (Mf a))) : FnOk P w K mg base CX0 (k + 1) f fd ps (SpN A C Mf Cr Rp) := by
  refine FD.ok S (fun vs H Q E h => ?_) (fun cdv Ar outer s H vs Q E hr h => ?_)
  · obtain ⟨a, Gs, pv, _⟩ := h
    rw [← paired_len pv, hn, hl]
  · obtain ⟨a, Gs, pv, gv, nd, r, hM, fin⟩ := h
    exact ⟨_, PSs.nox (hb cdv Ar outer s H E hr Gs a), ok_startN (hn a) (hC a) pv gv nd, r, hM, fin⟩
theorem fn_XN {Mf : α → Option (Except ε ρ)} {Rp : ρ → Pd} {Kx : Xk ε} {Cx : α → List Cell} (FD : FunD K x qual params body scope dvs kws f fd) (S : FnScope Nn ps scope) (hn : ∀ a, (A a).length = n) (hl : n = ps.length) (hC : ∀ a, num 0 (C a))
    (hb : ∀ (cdv : Value) (Ar : Around) (outer : List Env) (s : Shared) (H : Hp) (E : XK) (hr : Room k (Ar.deeper (envOfC qual scope s.heap.objs.size f cdv))) (Gs : List (List Addr)) (a : α), Takes (cxOf (L2.CX P w) P w K mg base Nn qual scope f cdv Ar outer s H E) (wE E) → PSs (cxOf (L2.CX P w) P w K mg base Nn qual scope f cdv Ar outer s H E) body
      (tS ⟨H, Gs⟩ ((A a).map some ++ List.replicate (Nn.length - n) none) (C a) (fX Kx (fF (RF ⟨H, Gs⟩ (Cr a) Rp)) ⟨H, Gs⟩ (Cx a) (fun _ _ => True) (wE E)) (Mf a))) : FnOk P w K mg base (L2.CX P w) (k + 1) f fd ps (SpXN A C Mf Cr Rp Kx Cx) := by
  refine FD.ok S (fun vs H Q E h => ?_) (fun cdv Ar outer s H vs Q E hr h => ?_)
  · obtain ⟨a, Gs, pv, _⟩ := h
    rw [← paired_len pv, hn, hl]
  · obtain ⟨a, Gs, pv, gv, nd, g, hM, fin⟩ := h
    refine ⟨_, hb cdv Ar outer s H E hr Gs a (takes_of rfl rfl rfl rfl), ok_startN (hn a) (hC a) pv gv nd, g, hM, ?_⟩
    cases g with
    | ok r => exact fin
    | error e => exact fun cls d σ H' _ hk _ q => fin cls d H' hk q
end
end L3
end
section
set_option maxHeartbeats 4000000
set_option autoImplicit true
namespace L3
open PySem PySem.Spec PyProof.Rows L2 PySem.SxX
section
variable {X : Cx} {CX : CXT} {k : Nat} {f C : Addr} {fd : FuncData} {ps : List Str} {sp : Sp} {E : SS → XK} {m : Str} {pos apos : Pos} {e o : Expr} {es : List Expr} {ta : TE} {t : TA}
def tMethS (C : Addr) (m : Str) (sp : Sp) (E : SS → XK) (ta : TE) (t : TA) : TE := fun σ H Q => ta σ H fun x H1 => ∃ a dx fs, x = .ref a ∧ H1 a = some (.ins C dx fs) ∧ fs.lookup m = none ∧ t σ H1 fun vs H2 => sp (x :: vs) H2 Q (E σ)
theorem pe_methS {pl : Sem Bool} (he : PE X o ta) (c : Cls X.K C) (hm : Meth X.K C m f) (F : FnOk X.prog X.w X.K X.mg X.base CX k f fd ps sp) (hr : Room k X.A) (hb : Binds X.K fd ps []) (hx : ∀ σ, PassesAt CX X σ (E σ)) (ha : PA X (e :: es) t)
    (hst : starEach (e :: es) X.env = (false, eval e X.env) :: starEach es X.env := by rfl) (hpl : (backTo pos (starEach es X.env)).any (·.1) = false := by rfl)
    (ht : eval (.Call (.Attribute o m apos) (e :: es) [] pos) X.env = (do
      let ov ← eval o X.env
      standAt apos.atName
      let (f, first) ← holding [ov] (getMethod ov m pl)
      callWith pos f first (backTo pos (starEach (e :: es) X.env)) (backToKw pos (keywordEach [] X.env))) := by rfl) :
    PE X (.Call (.Attribute o m apos) (e :: es) [] pos) (tMethS C m sp E ta t) := by
  refine ⟨fun pins s σ H Q I h => ?_⟩
  refine PySem.W.methodCall_KW (pl := pl) (thn (he.run pins s σ H _ I h) fun u s1 ⟨x, H1, I1, rx, a, dx, fs, ex, ea, l, q⟩ => ?_) ht
  subst ex
  obtain rfl : u = Value.ref a := rx
  refine getmeth_ok I1 ea c hm l ?_
  refine PySem.W.callWith_K (first := [.ref a]) (h₀ := X.base) I.ok.mod.kin hm.kp (thn (ha.run pos pins s1 σ H1 _ I1 q) fun us s2 ⟨vs, H2, I2, r, q2⟩ => ⟨I2.kIn, ?_⟩) hst hpl
  exact run_fnS (us := .ref a :: us) (vs := .ref a :: vs) F hr hb (hx σ) I2 (.cons rfl r) q2
theorem pe_methS0 {pl : Sem Bool} (he : PE X o ta) (c : Cls X.K C) (hm : Meth X.K C m f) (F : FnOk X.prog X.w X.K X.mg X.base CX k f fd ps sp) (hr : Room k X.A) (hb : Binds X.K fd ps []) (hx : ∀ σ, PassesAt CX X σ (E σ))
    (ht : eval (.Call (.Attribute o m apos) [] [] pos) X.env = (do
      let ov ← eval o X.env
      standAt apos.atName
      let (f, first) ← holding [ov] (getMethod ov m pl)
      callWith pos f first (backTo pos (starEach [] X.env)) (backToKw pos (keywordEach [] X.env))) := by rfl) :
    PE X (.Call (.Attribute o m apos) [] [] pos) (tMethS C m sp E ta tNil) := by
  refine ⟨fun pins s σ H Q I h => ?_⟩
  refine PySem.W.methodCall_KW (pl := pl) (thn (he.run pins s σ H _ I h) fun u s1 ⟨x, H1, I1, rx, a, dx, fs, ex, ea, l, q⟩ => ?_) ht
  subst ex
  obtain rfl : u = Value.ref a := rx
  refine getmeth_ok I1 ea c hm l ?_
  exact PySem.W.callWith_K0 (first := [.ref a]) I1.kIn hm.kp (run_fnS (us := [.ref a]) (vs := [.ref a]) F hr hb (hx σ) I1 (.cons rfl .nil) q)
theorem passesAt0 : ∀ σ, PassesAt CX0 X σ ((fun _ => fun _ _ _ => False : SS → XK) σ) := fun _ _ _ _ _ _ _ h => h.elim
end
section
variable {X : Cx} {F : Fm} {Γ : Gm} {Δ : Δs} {γ : Type} {f : Addr} {fd : FuncData} {ps : List Str} {kk : Nat} {α ρ β ε : Type} {A : α → List Pd} {C : α → List Cell} {Cr : α → ρ → List Cell} {xs : β → α} {T : Option γ} {e : Expr} {es : List Expr} {x : Str} {p pos : Pos} {Δ1 R : β → Δs} {Δ2 : β → ρ → Δs} {kc : β × ρ → Option γ}
theorem x_N {Mf : α → Option ρ} {Rp : ρ → Pd} (Pm : List (Option Nat)) (R : β → Δs) (G : FnOk X.prog X.w X.K X.mg X.base CX0 kk f fd ps (SpN A C Mf Cr Rp)) (hr : Room kk X.A) (hm : X.mg x = some (.ref f)) (hk : PySem.W.keepIn X.K (.ref f) = true) (hb : Binds X.K fd ps [])
    (ha : PA X (e :: es) (tAr true F Γ Δ T (fun b => (Mf (xs b)).bind fun r => kc (b, r)) (fun b => A (xs b)) Δ1))
    (hd : ∀ b σ H, Ok F Γ (Δ1 b) σ H → Ok F Γ (rp Pm (C (xs b)) ++ R b) σ H) (hu : ∀ b r σ H, Ok F Γ (rp Pm (Cr (xs b) r) ++ R b) σ H → Ok F Γ (Δ2 b r) σ H)
    (hP : ∀ a, Pm.length = (C a).length := by exact fun _ => rfl) (hL : ∀ a r, (Cr a r).length = (C a).length := by exact fun _ _ => rfl) (hn : ∀ a r, num 0 (Cr a r) := by exact fun _ _ => ⟨rfl, trivial⟩)
    (hg : Gl X x := by rfl) (hdb : (x == ("__debug__" : Str)) = false := by decide) (he : starEach (e :: es) X.env = (false, eval e X.env) :: starEach es X.env := by rfl) (hpl : (backTo pos (starEach es X.env)).any (·.1) = false := by rfl) :
    PE X (.Call (.Name x p) (e :: es) [] pos) (tE true F Γ Δ T kc (fun b => Rp b.2) fun b => Δ2 b.1 b.2) :=
  (pe_call (E := fun _ _ _ => False) G hr hg hm hk hb .nil pass0 ha hdb he hpl).wk fun σ H Q ⟨ok, g, e, q⟩ => ⟨ok, g, e, fun b vs H1 kb st ok1 pv => by
    obtain ⟨r, er, kr⟩ := bind_some kb
    rw [List.append_nil]
    obtain ⟨Gs, gv, nd, ret, _⟩ := (hd b σ H1 ok1).lendL (hP _)
    refine ⟨xs b, Gs, pv, gv, nd, r, er, fun v H' hk hv => ?_⟩
    obtain ⟨ok', st'⟩ := ret H' _ (hL _ _) (hn _ _) hk
    exact q (b, r) v H' kr (st.trans st') (hu _ _ _ _ ok') hv⟩
variable {o : Expr} {apos : Pos} {m cn : Str} {β0 : Type} {k0 : β0 → Option γ} {Δ0 : β0 → Δs} {v : β0 → V} {ns : List Str} {ds : β0 → List Od} {prm : Option Nat} {Cc : Addr}
theorem isO {σ : SS} {H : Hp} {D : Δs} {j : Nat} {w : V} {dd : List Od} (ok : Ok F Γ D σ H) (hj : D[j]? = some ⟨w, oIO X.mg cn ns dd, prm⟩) (gc : X.mg cn = some (.ref Cc)) (hnm : idxF ns m = none) : ∃ a dx fs, w = .ref a ∧ H a = some (.ins Cc dx fs) ∧ fs.lookup m = none := by
  obtain ⟨G, a, C', dx, vs, gs, eg, ev, g', h, p⟩ := ok.at hj
  rw [gc] at g'
  cases g'
  exact ⟨a, dx, _, ev, h, lookup_zipN hnm⟩
theorem x_NM {xs : β0 → β → α} {Mf : α → Option ρ} {Rp : ρ → Pd} {Δ1 : β0 → β → Δs} {Δ2 : β0 → β → ρ → Δs} {kc : (β0 × β) × ρ → Option γ} {pl : Sem Bool} (Pm : List (Option Nat)) (R : β0 → β → Δs) (j : Nat) (gc : X.mg cn = some (.ref Cc)) (c : Cls X.K Cc) (hm : Meth X.K Cc m f) (G : FnOk X.prog X.w X.K X.mg X.base CX0 kk f fd ps (SpN A C Mf Cr Rp)) (hr : Room kk X.A) (hb : Binds X.K fd ps [])
    (h1 : PE X o (tE true F Γ Δ T k0 (fun b0 => pV (v b0)) Δ0)) (hj : ∀ b0, (Δ0 b0)[j]? = some ⟨v b0, oIO X.mg cn ns (ds b0), prm⟩) (hnm : idxF ns m = none)
    (ha : ∀ b0, PA X (e :: es) (tAr true F Γ (Δ0 b0) (k0 b0) (fun b => (Mf (xs b0 b)).bind fun r => kc ((b0, b), r)) (fun b => (A (xs b0 b)).tail) (Δ1 b0))) (hA : ∀ b0 b, A (xs b0 b) = pV (v b0) :: (A (xs b0 b)).tail)
    (hd : ∀ b0 b σ H, Ok F Γ (Δ1 b0 b) σ H → Ok F Γ (rp Pm (C (xs b0 b)) ++ R b0 b) σ H) (hu : ∀ b0 b r σ H, Ok F Γ (rp Pm (Cr (xs b0 b) r) ++ R b0 b) σ H → Ok F Γ (Δ2 b0 b r) σ H)
    (hP : ∀ a, Pm.length = (C a).length := by exact fun _ => rfl) (hL : ∀ a r, (Cr a r).length = (C a).length := by exact fun _ _ => rfl) (hn : ∀ a r, num 0 (Cr a r) := by exact fun _ _ => ⟨rfl, trivial⟩)
    (hst : starEach (e :: es) X.env = (false, eval e X.env) :: starEach es X.env := by rfl) (hpl : (backTo pos (starEach es X.env)).any (·.1) = false := by rfl)
    (ht : eval (.Call (.Attribute o m apos) (e :: es) [] pos) X.env = (do
      let ov ← eval o X.env
      standAt apos.atName
      let (f, first) ← holding [ov] (getMethod ov m pl)
      callWith pos f first (backTo pos (starEach (e :: es) X.env)) (backToKw pos (keywordEach [] X.env))) := by rfl) :
    PE X (.Call (.Attribute o m apos) (e :: es) [] pos) (tE true F Γ Δ T kc (fun b => Rp b.2) fun b => Δ2 b.1.1 b.1.2 b.2) :=
  (pe_methS (pl := pl) h1 c hm G hr hb passesAt0 (pa_ex ha) hst hpl ht).wk fun σ H Q ⟨ok, g, e, q⟩ => ⟨ok, g, e, fun b0 u H0 kb0 st0 ok0 hv0 => by
    have hv0 : u = v b0 := hv0
    subst hv0
    obtain ⟨a, dx, fs, ea, ha, hl⟩ := isO ok0 (hj b0) gc hnm
    refine ⟨a, dx, fs, ea, ha, hl, b0, ok0, g, kb0, fun b vs H1 kb st ok1 pv => ?_⟩
    obtain ⟨r, er, kr⟩ := bind_some kb
    obtain ⟨Gs, gv, nd, ret, _⟩ := (hd b0 b σ H1 ok1).lendL (hP _)
    refine ⟨xs b0 b, Gs, by rw [hA]; exact .cons rfl pv, gv, nd, r, er, fun v' H' hk hv => ?_⟩
    obtain ⟨ok', st'⟩ := ret H' _ (hL _ _) (hn _ _) hk
    exact q ((b0, b), r) v' H' kr ((st0.trans st).trans st') (hu _ _ _ _ _ ok') hv⟩
end
end L3
end
section
set_option maxHeartbeats 4000000
set_option autoImplicit true
namespace L3
open PySem PySem.Spec PyProof.Rows L2 PySem.SxX
section
variable {X : Cx} {F : Fm} {Γ : Gm} {Δ : Δs} {γ : Type} {f : Addr} {fd : FuncData} {ps : List Str} {kk : Nat} {α ρ β ε : Type} {A : α → List Pd} {C : α → List Cell} {Cr : α → ρ → List Cell} {T : Option γ} {e : Expr} {es : List Expr} {x : Str} {p pos : Pos} {o : Expr} {apos : Pos} {m cn : Str} {β0 : Type} {k0 : β0 → Option γ} {Δ0 : β0 → Δs} {v : β0 → V} {ns : List Str} {ds : β0 → List Od} {prm : Option Nat} {Cc : Addr} {Mf : α → Option (Except ε ρ)} {Rp : ρ → Pd} {Kx : Xk ε} {Cx : α → List Cell} {ιx : ε → γ} {Wx : WX}
theorem x_XNM {xs : β0 → β → α} {Δ1 : β0 → β → Δs} {Δ2 : β0 → β → ρ → Δs} {kc : (β0 × β) × ρ → Option γ} {pl : Sem Bool} (Pm : List (Option Nat)) (R : β0 → β → Δs) (j : Nat) (tk : Takes X Wx) (gc : X.mg cn = some (.ref Cc)) (c : Cls X.K Cc) (hm : Meth X.K Cc m f) (G : FnOk X.prog X.w X.K X.mg X.base (L2.CX X.prog X.w) kk f fd ps (SpXN A C Mf Cr Rp Kx Cx)) (hr : Room kk X.A) (hb : Binds X.K fd ps [])
    (h1 : PE X o (tE true F Γ Δ T k0 (fun b0 => pV (v b0)) Δ0)) (hj : ∀ b0, (Δ0 b0)[j]? = some ⟨v b0, oIO X.mg cn ns (ds b0), prm⟩) (hnm : idxF ns m = none)
    (ha : ∀ b0, PA X (e :: es) (tAr true F Γ (Δ0 b0) (k0 b0) (fun b => (Mf (xs b0 b)).bind (xK ιx fun r => kc ((b0, b), r))) (fun b => (A (xs b0 b)).tail) (Δ1 b0))) (hA : ∀ b0 b, A (xs b0 b) = pV (v b0) :: (A (xs b0 b)).tail)
    (hd : ∀ b0 b σ H, Ok F Γ (Δ1 b0 b) σ H → Ok F Γ (rp Pm (C (xs b0 b)) ++ R b0 b) σ H) (hu : ∀ b0 b r σ H, Ok F Γ (rp Pm (Cr (xs b0 b) r) ++ R b0 b) σ H → Ok F Γ (Δ2 b0 b r) σ H) (hx : ∀ b0 b σ H, Ok F Γ (rp Pm (Cx (xs b0 b)) ++ R b0 b) σ H → Ok F Γ Δ σ H)
    (hP : ∀ a, Pm.length = (C a).length := by exact fun _ => rfl) (hL : ∀ a r, (Cr a r).length = (C a).length := by exact fun _ _ => rfl) (hn : ∀ a r, num 0 (Cr a r) := by exact fun _ _ => ⟨rfl, trivial⟩) (hLx : ∀ a, (Cx a).length = (C a).length := by exact fun _ => rfl) (hnx : ∀ a, num 0 (Cx a) := by exact fun _ => ⟨rfl, trivial⟩)
    (hst : starEach (e :: es) X.env = (false, eval e X.env) :: starEach es X.env := by rfl) (hpl : (backTo pos (starEach es X.env)).any (·.1) = false := by rfl)
    (ht : eval (.Call (.Attribute o m apos) (e :: es) [] pos) X.env = (do
      let ov ← eval o X.env
      standAt apos.atName
      let (f, first) ← holding [ov] (getMethod ov m pl)
      callWith pos f first (backTo pos (starEach (e :: es) X.env)) (backToKw pos (keywordEach [] X.env))) := by rfl) :
    PE X (.Call (.Attribute o m apos) (e :: es) [] pos) (tEX true F Γ Δ T kc (fun b => Rp b.2) (fun b => Δ2 b.1.1 b.1.2 b.2) ιx Kx Wx) :=
  (pe_methS (pl := pl) h1 c hm G hr hb (fun σ => passAt tk σ) (pa_ex ha) hst hpl ht).wk fun σ H Q ⟨ok, g, e, q, qx⟩ => ⟨ok, g, e, fun b0 u H0 kb0 st0 ok0 hv0 => by
    have hv0 : u = v b0 := hv0
    subst hv0
    obtain ⟨a, dx, fs, ea, ha, hl⟩ := isO ok0 (hj b0) gc hnm
    refine ⟨a, dx, fs, ea, ha, hl, b0, ok0, g, kb0, fun b vs H1 kb st ok1 pv => ?_⟩
    obtain ⟨w, ew, kw⟩ := bind_some kb
    obtain ⟨Gs, gv, nd, ret, _⟩ := (hd b0 b σ H1 ok1).lendL (hP _)
    refine ⟨xs b0 b, Gs, by rw [hA]; exact .cons rfl pv, gv, nd, w, ew, ?_⟩
    cases w with
    | ok r =>
      intro v' H' hk hv
      obtain ⟨ok', st'⟩ := ret H' _ (hL _ _) (hn _ _) hk
      exact q ((b0, b), r) v' H' kw ((st0.trans st).trans st') (hu _ _ _ _ _ ok') hv
    | error er =>
      intro cls d H' hk hxx
      obtain ⟨ok', st'⟩ := ret H' _ (hLx _) (hnx _) hk
      exact qx er (Option.some.inj kw).symm cls d H' ((st0.trans st).trans st') (hx _ _ _ _ ok') hxx⟩
theorem x_XNM0 {xs : β0 → α} {Δ2 : β0 → ρ → Δs} {kc : β0 × ρ → Option γ} {pl : Sem Bool} (Pm : List (Option Nat)) (R : β0 → Δs) (j : Nat) (tk : Takes X Wx) (gc : X.mg cn = some (.ref Cc)) (c : Cls X.K Cc) (hm : Meth X.K Cc m f) (G : FnOk X.prog X.w X.K X.mg X.base (L2.CX X.prog X.w) kk f fd ps (SpXN A C Mf Cr Rp Kx Cx)) (hr : Room kk X.A) (hb : Binds X.K fd ps [])
    (h1 : PE X o (tE true F Γ Δ T (fun b0 => (Mf (xs b0)).bind (xK ιx fun r => kc (b0, r))) (fun b0 => pV (v b0)) Δ0)) (hj : ∀ b0, (Δ0 b0)[j]? = some ⟨v b0, oIO X.mg cn ns (ds b0), prm⟩) (hnm : idxF ns m = none) (hA : ∀ b0, A (xs b0) = [pV (v b0)])
    (hd : ∀ b0 σ H, Ok F Γ (Δ0 b0) σ H → Ok F Γ (rp Pm (C (xs b0)) ++ R b0) σ H) (hu : ∀ b0 r σ H, Ok F Γ (rp Pm (Cr (xs b0) r) ++ R b0) σ H → Ok F Γ (Δ2 b0 r) σ H) (hx : ∀ b0 σ H, Ok F Γ (rp Pm (Cx (xs b0)) ++ R b0) σ H → Ok F Γ Δ σ H)
    (hP : ∀ a, Pm.length = (C a).length := by exact fun _ => rfl) (hL : ∀ a r, (Cr a r).length = (C a).length := by exact fun _ _ => rfl) (hn : ∀ a r, num 0 (Cr a r) := by exact fun _ _ => ⟨rfl, trivial⟩) (hLx : ∀ a, (Cx a).length = (C a).length := by exact fun _ => rfl) (hnx : ∀ a, num 0 (Cx a) := by exact fun _ => ⟨rfl, trivial⟩)
    (ht : eval (.Call (.Attribute o m apos) [] [] pos) X.env = (do
      let ov ← eval o X.env
      standAt apos.atName
      let (f, first) ← holding [ov] (getMethod ov m pl)
      callWith pos f first (backTo pos (starEach [] X.env)) (backToKw pos (keywordEach [] X.env))) := by rfl) :
    PE X (.Call (.Attribute o m apos) [] [] pos) (tEX true F Γ Δ T kc (fun b => Rp b.2) (fun b => Δ2 b.1 b.2) ιx Kx Wx) :=
  (pe_methS0 (pl := pl) h1 c hm G hr hb (fun σ => passAt tk σ) ht).wk fun σ H Q ⟨ok, g, e, q, qx⟩ => ⟨ok, g, e, fun b0 u H0 kb0 st0 ok0 hv0 => by
    have hv0 : u = v b0 := hv0
    subst hv0
    obtain ⟨a, dx, fs, ea, ha, hl⟩ := isO ok0 (hj b0) gc hnm
    obtain ⟨w, ew, kw⟩ := bind_some kb0
    obtain ⟨Gs, gv, nd, ret, _⟩ := (hd b0 σ H0 ok0).lendL (hP _)
    refine ⟨a, dx, fs, ea, ha, hl, xs b0, Gs, by rw [hA]; exact .cons rfl .nil, gv, nd, w, ew, ?_⟩
    cases w with
    | ok r =>
      intro v' H' hk hv
      obtain ⟨ok', st'⟩ := ret H' _ (hL _ _) (hn _ _) hk
      exact q (b0, r) v' H' kw (st0.trans st') (hu _ _ _ _ ok') hv
    | error er =>
      intro cls d H' hk hxx
      obtain ⟨ok', st'⟩ := ret H' _ (hLx _) (hnx _) hk
      exact qx er (Option.some.inj kw).symm cls d H' (st0.trans st') (hx _ _ _ ok') hxx⟩
theorem x_ZNM {xs : β0 → β → α} {Δ1 : β0 → β → Δs} {Δ2 : β0 → β → ρ → Δs} {kc : (β0 × β) × ρ → Option γ} {pl : Sem Bool} (Pm : List (Option Nat)) (R : β0 → β → Δs) (j : Nat) (gc : X.mg cn = some (.ref Cc)) (c : Cls X.K Cc) (hm : Meth X.K Cc m f) (G : FnOk X.prog X.w X.K X.mg X.base (L2.CX X.prog X.w) kk f fd ps (SpXN A C Mf Cr Rp Kx Cx)) (hr : Room kk X.A) (hb : Binds X.K fd ps [])
    (h1 : PE X o (tE true F Γ Δ T k0 (fun b0 => pV (v b0)) Δ0)) (hj : ∀ b0, (Δ0 b0)[j]? = some ⟨v b0, oIO X.mg cn ns (ds b0), prm⟩) (hnm : idxF ns m = none)
    (ha : ∀ b0, PA X (e :: es) (tAr true F Γ (Δ0 b0) (k0 b0) (fun b => ((Mf (xs b0 b)).bind okx).bind fun r => kc ((b0, b), r)) (fun b => (A (xs b0 b)).tail) (Δ1 b0))) (hA : ∀ b0 b, A (xs b0 b) = pV (v b0) :: (A (xs b0 b)).tail)
    (hd : ∀ b0 b σ H, Ok F Γ (Δ1 b0 b) σ H → Ok F Γ (rp Pm (C (xs b0 b)) ++ R b0 b) σ H) (hu : ∀ b0 b r σ H, Ok F Γ (rp Pm (Cr (xs b0 b) r) ++ R b0 b) σ H → Ok F Γ (Δ2 b0 b r) σ H)
    (hP : ∀ a, Pm.length = (C a).length := by exact fun _ => rfl) (hL : ∀ a r, (Cr a r).length = (C a).length := by exact fun _ _ => rfl) (hn : ∀ a r, num 0 (Cr a r) := by exact fun _ _ => ⟨rfl, trivial⟩)
    (hst : starEach (e :: es) X.env = (false, eval e X.env) :: starEach es X.env := by rfl) (hpl : (backTo pos (starEach es X.env)).any (·.1) = false := by rfl)
    (ht : eval (.Call (.Attribute o m apos) (e :: es) [] pos) X.env = (do
      let ov ← eval o X.env
      standAt apos.atName
      let (f, first) ← holding [ov] (getMethod ov m pl)
      callWith pos f first (backTo pos (starEach (e :: es) X.env)) (backToKw pos (keywordEach [] X.env))) := by rfl) :
    PE X (.Call (.Attribute o m apos) (e :: es) [] pos) (tE true F Γ Δ T kc (fun b => Rp b.2) (fun b => Δ2 b.1.1 b.1.2 b.2)) :=
  (pe_methS (pl := pl) h1 c hm G hr hb (fun σ => passAt takes_no σ) (pa_ex ha) hst hpl ht).wk fun σ H Q ⟨ok, g, e, q⟩ => ⟨ok, g, e, fun b0 u H0 kb0 st0 ok0 hv0 => by
    have hv0 : u = v b0 := hv0
    subst hv0
    obtain ⟨a, dx, fs, ea, ha, hl⟩ := isO ok0 (hj b0) gc hnm
    refine ⟨a, dx, fs, ea, ha, hl, b0, ok0, g, kb0, fun b vs H1 kb st ok1 pv => ?_⟩
    obtain ⟨r, er, kr⟩ := bind_some kb
    obtain ⟨w, ew, kw⟩ := bind_some er
    obtain ⟨Gs, gv, nd, ret, _⟩ := (hd b0 b σ H1 ok1).lendL (hP _)
    refine ⟨xs b0 b, Gs, by rw [hA]; exact .cons rfl pv, gv, nd, w, ew, ?_⟩
    cases w with
    | ok r' =>
      cases kw
      intro v' H' hk hv
      obtain ⟨ok', st'⟩ := ret H' _ (hL _ _) (hn _ _) hk
      exact q ((b0, b), r) v' H' kr ((st0.trans st).trans st') (hu _ _ _ _ _ ok') hv
    | error er => cases kw⟩
theorem x_ZNM0 {xs : β0 → α} {Δ2 : β0 → ρ → Δs} {kc : β0 × ρ → Option γ} {pl : Sem Bool} (Pm : List (Option Nat)) (R : β0 → Δs) (j : Nat) (gc : X.mg cn = some (.ref Cc)) (c : Cls X.K Cc) (hm : Meth X.K Cc m f) (G : FnOk X.prog X.w X.K X.mg X.base (L2.CX X.prog X.w) kk f fd ps (SpXN A C Mf Cr Rp Kx Cx)) (hr : Room kk X.A) (hb : Binds X.K fd ps [])
    (h1 : PE X o (tE true F Γ Δ T (fun b0 => ((Mf (xs b0)).bind okx).bind fun r => kc (b0, r)) (fun b0 => pV (v b0)) Δ0)) (hj : ∀ b0, (Δ0 b0)[j]? = some ⟨v b0, oIO X.mg cn ns (ds b0), prm⟩) (hnm : idxF ns m = none) (hA : ∀ b0, A (xs b0) = [pV (v b0)])
    (hd : ∀ b0 σ H, Ok F Γ (Δ0 b0) σ H → Ok F Γ (rp Pm (C (xs b0)) ++ R b0) σ H) (hu : ∀ b0 r σ H, Ok F Γ (rp Pm (Cr (xs b0) r) ++ R b0) σ H → Ok F Γ (Δ2 b0 r) σ H)
    (hP : ∀ a, Pm.length = (C a).length := by exact fun _ => rfl) (hL : ∀ a r, (Cr a r).length = (C a).length := by exact fun _ _ => rfl) (hn : ∀ a r, num 0 (Cr a r) := by exact fun _ _ => ⟨rfl, trivial⟩)
    (ht : eval (.Call (.Attribute o m apos) [] [] pos) X.env = (do
      let ov ← eval o X.env
      standAt apos.atName
      let (f, first) ← holding [ov] (getMethod ov m pl)
      callWith pos f first (backTo pos (starEach [] X.env)) (backToKw pos (keywordEach [] X.env))) := by rfl) :
    PE X (.Call (.Attribute o m apos) [] [] pos) (tE true F Γ Δ T kc (fun b => Rp b.2) (fun b => Δ2 b.1 b.2)) :=
  (pe_methS0 (pl := pl) h1 c hm G hr hb (fun σ => passAt takes_no σ) ht).wk fun σ H Q ⟨ok, g, e, q⟩ => ⟨ok, g, e, fun b0 u H0 kb0 st0 ok0 hv0 => by
    have hv0 : u = v b0 := hv0
    subst hv0
    obtain ⟨a, dx, fs, ea, ha, hl⟩ := isO ok0 (hj b0) gc hnm
    obtain ⟨r, er, kr⟩ := bind_some kb0
    obtain ⟨w, ew, kw⟩ := bind_some er
    obtain ⟨Gs, gv, nd, ret, _⟩ := (hd b0 σ H0 ok0).lendL (hP _)
    refine ⟨a, dx, fs, ea, ha, hl, xs b0, Gs, by rw [hA]; exact .cons rfl .nil, gv, nd, w, ew, ?_⟩
    cases w with
    | ok r' =>
      cases kw
      intro v' H' hk hv
      obtain ⟨ok', st'⟩ := ret H' _ (hL _ _) (hn _ _) hk
      exact q (b0, r) v' H' kr (st0.trans st') (hu _ _ _ _ ok') hv
    | error er => cases kw⟩
section
variable {xs : β → α} {Δ1 R : β → Δs} {Δ2 : β → ρ → Δs} {kc : β × ρ → Option γ}
end
end
section
variable {X : Cx} {W : Bool} {F : Fm} {Γ : Gm} {Δ : Δs} {γ β ε : Type} {T : Option γ} {k : β → Option γ} {e : Expr}
theorem x_ok {E : β → Pd} {Δ1 Δ2 : β → Δs} (he : PE X e (tE W F Γ Δ T k E Δ1)) (h : ∀ b σ H, Ok F Γ (Δ1 b) σ H → Ok F Γ (Δ2 b) σ H) : PE X e (tE W F Γ Δ T k E Δ2) :=
  he.wk fun σ H Q ⟨ok, g, e, q⟩ => ⟨ok, g, e, fun b v H' kb st ok' hv => q b v H' kb st (h _ _ _ ok') hv⟩
theorem x_path {α : Type} {v : V} {d : Od} {D : α → Od} {x : β → α} {back : β → α → Od} {prm : Option Nat} (j : Nat) (he : PE X e (tFo F Γ Δ T k v d D x back)) (hj : Δ[j]? = some ⟨v, d, prm⟩ := by rfl) : PE X e (tE W F Γ Δ T (fun b : β × V => k b.1) (fun b => pV b.2) fun b => ⟨b.2, D (x b.1), prm⟩ :: Δ.set j ⟨v, oCut D (back b.1) b.2, prm⟩) :=
  he.wk fun σ H Q ⟨ok, g, e, q⟩ => ⟨ok, g, e, fun b u H' kb gr ok' fo => q (b, u) u H' kb gr.st (ok'.cut hj fo) rfl⟩
def popL {α : Type} (xs : List α) : Option (α × List α) := match xs.getLast? with
  | some y => some (y, xs.dropLast)
  | none => none
theorem paired_last {α δ : Type} {P : α → δ → Prop} : ∀ {xs : List α} {vs : List δ} {y : α}, Paired P xs vs → xs.getLast? = some y → ∃ w, vs[vs.length - 1]? = some w ∧ P y w ∧ Paired P xs.dropLast vs.dropLast
  | [], _, _, .nil, h => nomatch h
  | [x], _, y, .cons r .nil, h => by
    cases h
    exact ⟨_, rfl, r, .nil⟩
  | x :: z :: xs, v :: w :: vs, y, .cons r t, h => by
    rw [List.getLast?_cons_cons] at h
    obtain ⟨u, h1, h2, h3⟩ := paired_last t h
    refine ⟨u, ?_, h2, ?_⟩
    · show (v :: w :: vs)[(v :: w :: vs).length - 1]? = some u
      have : (v :: w :: vs).length - 1 = ((w :: vs).length - 1) + 1 := by simp
      rw [this, List.getElem?_cons_succ]
      exact h1
    · rw [List.dropLast_cons_cons, List.dropLast_cons_cons]
      exact .cons r h3
theorem x_popF {o : Expr} {apos cpos : Pos} {α : Type} {Ee : α → Pd} {xs : β → List α} {v : V} {d : Od} {prm : Option Nat} {back : β → List α → Od} {kc : β × (α × List α) → Option γ} (j : Nat) (ho : PE X o (tFo F Γ Δ T (fun b => (popL (xs b)).bind fun r => kc (b, r)) v d (oL Ee) xs back)) (hj : Δ[j]? = some ⟨v, d, prm⟩ := by rfl)
    (hbase : attributeBase o "pop" X.env (eval o X.env) = eval o X.env := by rfl) (hline : (apos.endLine == cpos.line) = true := by rfl) :
    PE X (.Call (.Attribute o "pop" apos) [] [] cpos) (tE true F Γ Δ T kc (fun b => Ee b.2.1) fun b => Δ.set j ⟨v, back b.1 b.2.2, prm⟩) :=
  (pe_bm0 PySem.F.plainAttrs_list PySem.F.slot_list_pop PySem.F.type_list_pop mt_pop ho hbase hline).wk fun σ H Q ⟨ok, g, e, q⟩ => ⟨ok, g, e, fun b u H1 kb1 g1 ok1 fo => by
    obtain ⟨r, er, kr⟩ := bind_some kb1
    obtain ⟨G2, ⟨p, vs, eg, ev, hp, z, pq⟩, nd, tr⟩ := ok1.focT hj fo
    have eg : G2 = [p] := eg
    have ev : u = .ref p := ev
    have hr : (xs b).getLast? = some r.1 ∧ r.2 = (xs b).dropLast := by
      unfold popL at er
      split at er
      · rename_i y hy
        cases er
        exact ⟨hy, rfl⟩
      · cases er
    obtain ⟨w, w1, w2, w3⟩ := paired_last pq hr.1
    have fzm : Fzs H1 (upd H1 p (.lst vs.dropLast)) := Fzs.mut hp fun z => z
    have hl : (xs b).dropLast.length ≤ sizeLine := by rw [List.length_dropLast]; omega
    obtain ⟨ok3, s3⟩ := tr (upd H1 p (.lst vs.dropLast)) r.2 G2 (fun a o na e => by rw [upd_ne fun q => na (by rw [eg, q]; exact List.mem_singleton.mpr rfl)]; exact e) (fun a ha => by
      rw [eg] at ha
      rw [List.mem_singleton.mp ha]
      exact ⟨_, upd_same⟩) fzm nd (fun a ha => .inl ha) ⟨p, vs.dropLast, eg, ev, upd_same, by rw [hr.2]; exact hl, by rw [hr.2]; exact paired_mono (fun x _ h => (Ee x).mono fzm h) w3⟩
    exact ⟨by rw [ev]; exact .inl ⟨rfl, vs, .inl (.inl hp)⟩, p, vs, w, ev, rfl, hp, w1, q (b, r) w _ kr (g1.st.trans s3) ok3 ((Ee r.1).mono fzm w2)⟩⟩
end
section
variable {X : Cx} {F : Fm} {Γ : Gm} {Δ : Δs} {γ : Type} {T : Option γ} {N : Fn γ} {st : List Stmt}
theorem s_ok {Δ1 : Δs} (h : ∀ σ H, Ok F Γ Δ σ H → Ok F Γ Δ1 σ H) (hr : PSs X st (tS F Γ Δ1 N T)) : PSs X st (tS F Γ Δ N T) :=
  hr.wk fun A σ H ⟨ok, g, e, f⟩ => ⟨h _ _ ok, g, e, f⟩
theorem s_okE {ζ : Type} {Δ1 : ζ → Δs} (h : ∀ σ H, Ok F Γ Δ σ H → ∃ z, Ok F Γ (Δ1 z) σ H) (hr : ∀ z, PSs X st (tS F Γ (Δ1 z) N T)) : PSs X st (tS F Γ Δ N T) :=
  (pss_ex hr).wk fun A σ H ⟨ok, g, e, f⟩ => by
    obtain ⟨z, ok'⟩ := h _ _ ok
    exact ⟨z, ok', g, e, f⟩
end
end L3
end
section
set_option maxHeartbeats 4000000
set_option autoImplicit true
namespace L3
open PySem PySem.Spec PyProof.Rows L2 PySem.SxX
section
variable {X : Cx} {CX : CXT} {k : Nat} {C p g a dx : Addr} {fs : List (Str × V)} {f : Str} {fd : FuncData} {ps : List Str} {sp : Sp} {E : XK} {e : Expr} {pos : Pos} {ta : TE}
theorem getpropF_ok {pins : List (Addr × Obj)} {σ : SS} {H : Hp} {s : Shared} {Q : VK} {b : Bool} {E' : Value → Shared → Prop} {ob : Obj} (I : Inv X pins σ H s) (ea : H a = some (.frz ob (.ins C dx fs))) (c : Cls X.K C) (hp : PropOf X.K C f p g)
    (F : FnOk X.prog X.w X.K X.mg X.base CX k g fd ps sp) (hr : Room (k + 1) X.A) (hb : Binds X.K fd ps []) (hx : Passes CX X.nox E) (h : sp [.ref a] H Q E) :
    wpAny (model X.prog X.w) X.A (getAttr (.ref a) f b) (EP X pins σ Q) E' s := by
  obtain ⟨mA, O, _⟩ := insF_get I.hok ea
  obtain ⟨od, J, _⟩ := O.look
  obtain ⟨rest, hrec⟩ := hp.rec_
  have I1 := I.tok (s.toks + 1)
  have hl : ([Value.ref a] ++ []).length = ps.length := F.len _ _ _ _ h
  have hc : (PySem.W.clsIn X.K C).isSome = true := by
    obtain ⟨cd, hc, _⟩ := PySem.W.any_some c.hd
    rw [hc]
    rfl
  refine PySem.W.get_bind I.kIn J (PySem.W.plainGet_of (c.get f)).1 (PySem.W.findObj_data hc hp.at_ hp.get hp.tak) (PySem.W.plainGet_of (c.get f)).2 (wpAny_call (PySem.W.prop_get (s := { s with toks := s.toks + 1 }) I.kIn hrec ?_))
  refine codeAny_mono (F.run X.A.in1 X.stack { s with toks := s.toks + 1 } H ⟨[.ref a], []⟩ [.ref a] [.ref a] Q E hr.in1 I1.env0.in1 (hb _ [.ref a] I1.kIn hl) (.cons rfl .nil) h) fun r s' hq => ?_
  cases r with
  | error er => exact False.elim (hx pins σ H { s with toks := s.toks + 1 } er s' (I1.wish _) hq)
  | ok fl =>
    cases fl with
    | ret u =>
      obtain ⟨v, H', I3, rv, q3⟩ := I1.after hq
      show wpAny _ _ (handedOut u) _ _ _
      rw [PySem.W.handedOut_of (handed_of rv)]
      exact wpAny_pure ⟨v, H', I3, rv, q3⟩
    | next => exact False.elim hq
    | brk => exact False.elim hq
    | cont => exact False.elim hq
def tPropF (C : Addr) (sp : Sp) (E : XK) (ta : TE) : TE := fun σ H Q => ta σ H fun x H1 => ∃ a o dx fs, x = .ref a ∧ H1 a = some (.frz o (.ins C dx fs)) ∧ sp [.ref a] H1 Q E
theorem pe_propF (he : PE X e ta) (c : Cls X.K C) (hp : PropOf X.K C f p g) (F : FnOk X.prog X.w X.K X.mg X.base CX k g fd ps sp) (hr : Room (k + 1) X.A) (hb : Binds X.K fd ps []) (hx : Passes CX X.nox E)
    (hab : attributeBase e f X.env (eval e X.env) = eval e X.env) : PE X (.Attribute e f pos) (tPropF C sp E ta) := by
  refine ⟨fun pins s σ H Q I h => ?_⟩
  refine attr_of hab (thn (he.run pins s σ H _ I h) fun u s1 ⟨x, H1, I1, rx, a, ob, dx, fs, ex, ea, q⟩ => ?_)
  subst ex
  obtain rfl : u = Value.ref a := rx
  exact getpropF_ok I1 ea c hp F hr hb hx q
end
section
variable {X : Cx} {W : Bool} {F : Fm} {Γ : Gm} {Δ : Δs} {γ : Type} {fd : FuncData} {ps : List Str} {kk : Nat} {α ρ β : Type} {T : Option γ} {e : Expr}
def SpF {α ρ : Type} (A : α → List Pd) (Mf : α → Option ρ) (Rp : ρ → Pd) : Sp := fun vs H Q _ => ∃ a, Paired (fun p v => Pd.pr p H v) (A a) vs ∧ ∃ r, Mf a = some r ∧ RF ⟨H, []⟩ (fun _ => []) Rp r Q
theorem fn_F0 {P : Program} {w : World} {K : PySem.W.Frag} {mg : Str → Option Value} {base : Heap} {x qual : Str} {params : Arguments} {body : List Stmt} {scope : Scope} {dvs : List V} {kws : List (Str × V)} {f : Addr} {Nn : List Str} {k n : Nat} {A : α → List Pd} {Mf : α → Option ρ} {Rp : ρ → Pd} (FD : FunD K x qual params body scope dvs kws f fd) (S : FnScope Nn ps scope) (hn : ∀ a, (A a).length = n) (hl : n = ps.length)
    (hb : ∀ (cdv : Value) (Ar : Around) (outer : List Env) (s : Shared) (H : Hp) (E : XK) (hr : Room k (Ar.deeper (envOfC qual scope s.heap.objs.size f cdv))) (a : α), PSs (cxOf CX0 P w K mg base Nn qual scope f cdv Ar outer s H E).nox body
      (tS ⟨H, []⟩ ((A a).map some ++ List.replicate (Nn.length - n) none) [] (fF (RF ⟨H, []⟩ (fun _ => []) Rp)) (Mf a))) : FnOk P w K mg base CX0 (k + 1) f fd ps (SpF A Mf Rp) := by
  refine FD.ok S (fun vs H Q E h => ?_) (fun cdv Ar outer s H vs Q E hr h => ?_)
  · obtain ⟨a, pv, _⟩ := h
    rw [← paired_len pv, hn, hl]
  · obtain ⟨a, pv, r, hM, fin⟩ := h
    exact ⟨_, PSs.nox (hb cdv Ar outer s H E hr a), ok_start (Δ := []) (by rw [← paired_len pv, hn]) pv (fun _ h => nomatch h) List.nodup_nil (fun _ _ h => nomatch h), r, hM, fin⟩
theorem x_propF {A : α → List Pd} {Mf : α → Option ρ} {Rp : ρ → Pd} {xs : β → α} {kc : β × ρ → Option γ} {Δ1 : β → Δs} {cn f : Str} {ns : List Str} {pds : β → List Pd} {C p g : Addr} {pos : Pos} (gc : X.mg cn = some (.ref C)) (c : Cls X.K C) (hp : PropOf X.K C f p g) (G : FnOk X.prog X.w X.K X.mg X.base CX0 kk g fd ps (SpF A Mf Rp)) (hr : Room (kk + 1) X.A) (hb : Binds X.K fd ps [])
    (he : PE X e (tE W F Γ Δ T (fun b => (Mf (xs b)).bind fun r => kc (b, r)) (fun b => pI X.mg cn ns (pds b)) Δ1)) (hA : ∀ b, A (xs b) = [pI X.mg cn ns (pds b)] := by exact fun _ => rfl) (hab : attributeBase e f X.env (eval e X.env) = eval e X.env := by rfl) :
    PE X (.Attribute e f pos) (tE W F Γ Δ T kc (fun b => Rp b.2) fun b => Δ1 b.1) :=
  (pe_propF (E := fun _ _ _ => False) he c hp G hr hb pass0 hab).wk fun σ H Q ⟨ok, g, e, q⟩ => ⟨ok, g, e, fun b u H1 kb st ok1 hv => by
    obtain ⟨r, er, kr⟩ := bind_some kb
    have hv2 := hv
    obtain ⟨a, o, C', dx, vs, ev, g', h, pp⟩ := hv
    rw [gc] at g'
    cases g'
    subst ev
    refine ⟨a, o, dx, _, rfl, h, xs b, by rw [hA]; exact .cons hv2 .nil, r, er, fun v' H' hk hv' => ?_⟩
    obtain ⟨ok', st'⟩ := call_f0 (W := W) ok1 hk
    exact q (b, r) v' H' kr (st.trans st') ok' hv'⟩
end
open He
theorem funDA {K : PySem.W.Frag} {a : Addr} {d : He.DefD} (e : fnWA K a = d.val) (c : okA K a d = true) : ∃ fd, FunD K d.name d.qual d.params d.body d.scope (d.dvs K) (d.kws K) a fd := by
  obtain ⟨kp, c2⟩ := ba c
  unfold fnWA at e
  cases q : K.lookup a with
  | none =>
    rw [q] at c2
    cases c2
  | some o =>
    obtain ⟨oc, od, dt, osl⟩ := o
    rw [q] at c2 e
    cases dt with
    | func fd =>
      obtain ⟨n1, n2, n3, n4, n5, n6, n7, n8, n9, n10, n11, n12, n13, n14, n15⟩ := fd
      have e2 : (some (n1, n2, n3, n4, n5, n6, n7, n15) : FnW) = some (d.name, d.qual, d.params, .stmts d.body, d.scope, mainGlobals, [], builtinsNs) := e
      simp only [Option.some.injEq, Prod.mk.injEq] at e2
      obtain ⟨h1, h2, h3, h4, h5, h6, h7, h8⟩ := e2
      subst h1 h2 h3 h4 h5 h6 h7 h8
      have c3 : (PySem.W.codeIn K n13 d.qual && (dflB K n8 (d.dvs K) && kwdB K n9 (d.kws K))) = true := c2
      obtain ⟨k1, k2⟩ := ba c3
      obtain ⟨k3, k4⟩ := ba k2
      exact ⟨_, ⟨oc, od, n8, n9, n10, n11, n12, n13, n14, osl, rfl, q, k1, dflB_ok k3, kwdB_ok k4⟩, kp⟩
    | _ => cases c2
theorem PrD.prop {K : PySem.W.Frag} {d : PrD} (c : d.ok K = true) : PropOf K (ga K d.cls) d.nm (pAd K d.cls d.nm) (gAd K d.cls d.nm) := by
  obtain ⟨c1, c⟩ := ba c
  obtain ⟨c2, c⟩ := ba c
  obtain ⟨c3, c⟩ := ba c
  obtain ⟨c4, _⟩ := ba c
  refine ⟨eqO_ok c1, of_decide_eq_true c2, of_decide_eq_true c3, ?_⟩
  split at c4
  · rename_i g rest e
    rw [← of_decide_eq_true c4]
    exact ⟨rest, e⟩
  · cases c4
structure IsF (K : PySem.W.Frag) (C : Addr) : Prop where
  ha : PySem.W.findIn K (.ref C) "__class__" = some (some (.builtin "object.__class__"))
  hn : PySem.W.specialIn K (.builtin "object.__class__") "__get__" = some (some (.builtin "getset_descriptor.__get__"))
  htk : PySem.W.takesIn K (.builtin "object.__class__") = some true
  hm : PySem.W.mroIn K C (.type "object") = some true
theorem Qf.isf {K : PySem.W.Frag} {c : Str} (h : (Qf.isF c).ok K = true) : IsF K (ga K c) := by
  obtain ⟨c1, h⟩ := ba h
  obtain ⟨c2, h⟩ := ba h
  obtain ⟨c3, c4⟩ := ba h
  exact ⟨of_decide_eq_true c1, of_decide_eq_true c2, of_decide_eq_true c3, of_decide_eq_true c4⟩
theorem Qf.kits {K : PySem.W.Frag} {a b : Str ⊕ String} {r : Bool} (h : (Qf.kit a b r).ok K = true) : PySem.W.kitOne K (qv K a) (qv K b) = some r := of_decide_eq_true h
section
variable {P : Program} {fa : List He.Fa} {fn : List He.DefD} {xs : List XD} {rs cs : List Str} {prs : List PrD} {qs : List Qf} {K : PySem.W.Frag}
theorem SaysP.q (c : SaysP P fa fn xs rs cs prs qs K) (i : Nat) {q : Qf} (h : qs[i]? = some q := by rfl) : q.ok K = true := List.all_eq_true.mp (ba (show ((prs.all fun d => d.ok K) && qs.all fun q => q.ok K) = true from congrArg (fun z : AlP => z.2.1) c)).2 q (List.mem_of_getElem? h)
theorem SaysP.pr (c : SaysP P fa fn xs rs cs prs qs K) (i : Nat) {d : PrD} (h : prs[i]? = some d := by rfl) : PropOf K (ga K d.cls) d.nm (pAd K d.cls d.nm) (gAd K d.cls d.nm) ∧ ∃ fd, FunD K d.d.name d.d.qual d.d.params d.d.body d.d.scope (d.d.dvs K) (d.d.kws K) (gAd K d.cls d.nm) fd := by
  have c2 : (prs.all fun d => d.ok K) = true := (ba (show ((prs.all fun d => d.ok K) && qs.all fun q => q.ok K) = true from congrArg (fun z : AlP => z.2.1) c)).1
  have c3 := List.all_eq_true.mp c2 d (List.mem_of_getElem? h)
  have e : prs.map (fun d => fnWA K (gAd K d.cls d.nm)) = prs.map fun d => d.d.val := congrArg (fun z : AlP => z.2.2) c
  have e2 : (prs.map fun d => fnWA K (gAd K d.cls d.nm))[i]? = (prs.map fun d => d.d.val)[i]? := by rw [e]
  rw [List.getElem?_map, List.getElem?_map, h] at e2
  refine ⟨PrD.prop c3, funDA (Option.some.inj e2) ?_⟩
  obtain ⟨_, c⟩ := ba c3
  obtain ⟨_, c⟩ := ba c
  obtain ⟨_, c⟩ := ba c
  exact (ba c).2
end
end L3
end
section
set_option maxHeartbeats 4000000
set_option autoImplicit true
namespace L3
open PySem PySem.Spec PyProof.Rows L2 PySem.SxX
section
variable {P : Program} {w : World} {K : PySem.W.Frag} {mg : Str → Option Value} {base : Heap} {x qual : Str} {params : Arguments} {body : List Stmt} {scope : Scope} {dvs : List V} {kws : List (Str × V)} {f : Addr} {fd : FuncData} {Nn ps : List Str} {k n : Nat} {α ρ ε : Type} {A : α → List Pd} {C : α → List Cell} {Cr : α → ρ → List Cell}
theorem fn_NU {Mf : α → Option ρ} (FD : FunD K x qual params body scope dvs kws f fd) (S : FnScope Nn ps scope) (hn : ∀ a, (A a).length = n) (hl : n = ps.length) (hC : ∀ a, num 0 (C a))
    (hb : ∀ (cdv : Value) (Ar : Around) (outer : List Env) (s : Shared) (H : Hp) (E : XK) (hr : Room k (Ar.deeper (envOfC qual scope s.heap.objs.size f cdv))) (Gs : List (List Addr)) (a : α), PSs (cxOf CX0 P w K mg base Nn qual scope f cdv Ar outer s H E).nox body
      (tS ⟨H, Gs⟩ ((A a).map some ++ List.replicate (Nn.length - n) none) (C a) (fI ⟨H, Gs⟩ (Cr a)) (Mf a))) : FnOk P w K mg base CX0 (k + 1) f fd ps (SpN A C Mf Cr fun _ => pNon) := by
  refine FD.ok S (fun vs H Q E h => ?_) (fun cdv Ar outer s H vs Q E hr h => ?_)
  · obtain ⟨a, Gs, pv, _⟩ := h
    rw [← paired_len pv, hn, hl]
  · obtain ⟨a, Gs, pv, gv, nd, r, hM, fin⟩ := h
    exact ⟨_, PSs.nox (hb cdv Ar outer s H E hr Gs a), ok_startN (hn a) (hC a) pv gv nd, r, hM, fun σ' H' h => fin .non H' h rfl⟩
end
section
variable {X : Cx} {W : Bool} {F : Fm} {Γ : Gm} {Δ : Δs} {γ β ε : Type} {T : Option γ} {k : β → Option γ} {e : Expr}
theorem x_wkX {E E2 : β → Pd} {Δ1 : β → Δs} {ιx : ε → γ} {Kx : Xk ε} {Wx : WX} (he : PE X e (tEX W F Γ Δ T k E Δ1 ιx Kx Wx)) (h : ∀ b H v, (E b).pr H v → (E2 b).pr H v) : PE X e (tEX W F Γ Δ T k E2 Δ1 ιx Kx Wx) :=
  he.wk fun σ H Q ⟨ok, g, e, q, qx⟩ => ⟨ok, g, e, fun b v H' kb st ok' hv => q b v H' kb st ok' (h _ _ _ hv), qx⟩
theorem t_truV {α : Type} {E : α → Pd} {xs : β → List α} {v : V} {Δ1 : β → Δs} {prm : Option Nat} (j : Nat) (ha : PE X e (tE W F Γ Δ T k (fun _ => pV v) Δ1)) (hj : ∀ b, (Δ1 b)[j]? = some ⟨v, oL E (xs b), prm⟩ := by exact fun _ => rfl) (he : ∀ whole, isTrue e X.env whole = (do let v ← whole; standAt e.pos; holding [v] (truthy v)) := by intro _; rfl) : PT X e (tTs W F Γ Δ T k (fun b => !(xs b).isEmpty) Δ1) :=
  (pt_truth ha he).wk fun σ H Q ⟨ok, g, e, q⟩ => ⟨ok, g, e, fun b w H' kb f ok' hw => ⟨!(xs b).isEmpty, by
    have hw : w = v := hw
    subst hw
    obtain ⟨G, p, vs, eg, ev, h, z, pr⟩ := ok'.at (hj b)
    have ev : w = .ref p := ev
    rw [ev]
    exact .inl ⟨vs, .inl (.inl h), by
      have := paired_len pr
      cases hx : xs b <;> cases vs <;> simp_all⟩, q b H' kb f ok'⟩⟩
end
end L3
end
section
set_option maxHeartbeats 4000000
set_option autoImplicit true
namespace L3
open PySem PySem.Spec PyProof.Rows L2 PySem.SxX
inductive TyF (K : PySem.W.Frag) (H : Hp) : V → Value → Prop where
  | x {v : V} {t : Value} (h : TyX K H v t) : TyF K H v t
  | fIns {a C dx : Addr} {o : Obj} {fs : List (Str × V)} (e : H a = some (.frz o (.ins C dx fs))) (cl : Cls K C) (f : IsF K C) : TyF K H (.ref a) (.ref C)
section
variable {X : Cx} {pins : List (Addr × Obj)} {σ : SS} {H : Hp} {s : Shared}
theorem kit_ofF {x : V} {u t : Value} (I : Inv X pins σ H s) (rx : RelV x u) (ty : TyF X.K H x t) : ∃ P : Heap → Prop, PySem.W.KitX X.K u t P ∧ P s.heap ∧ u ≠ .builtin "__main__.__loader__#opaque" := by
  cases ty with
  | x h => exact kit_of I rx h
  | @fIns a C dx o fs ea cl f =>
    cases (show u = Value.ref a from rx)
    obtain ⟨mA, O, _⟩ := insF_get I.hok ea
    obtain ⟨od, J, _⟩ := O.look
    exact ⟨_, PySem.W.kitx_own (cl.get _) cl.hd f.ha f.hn f.htk f.hm, J, fun z => nomatch z⟩
def rIsiF (K : PySem.W.Frag) : List V → Hp → VK → Prop := fun xs H Q => ∃ (x c : V) (t u : Value) (b : Bool), xs = [x, c] ∧ ClsV c u ∧ TyF K H x t ∧ PySem.W.kitOne K t u = some b ∧ Q (.bl b) H
theorem call_isiF : CallR X (.builtin "isinstance") (rIsiF X.K) := by
  intro pins s σ H xs us Q I r h
  obtain ⟨x, c, t, u, b, rfl, k, ty, e, q⟩ := h
  obtain ⟨u1, u2, rfl, r1, r2⟩ := vals2 r
  have e2 := k.eq r2
  subst e2
  obtain ⟨P, Z, p, hx⟩ := kit_ofF I r1 ty
  exact PySem.W.kia_one Z I.kIn p e hx fun tk => ⟨.bl b, H, I.tok tk, rfl, q⟩
end
def IsV (K : PySem.W.Frag) (Δ : Δs) (p : Pd) (u : Value) (b : Bool) : Prop := ∀ F H v, Hk F Δ H → p.pr H v → ∃ t, TyF K H v t ∧ PySem.W.kitOne K t u = some b
section
variable {K : PySem.W.Frag} {mg : Str → Option Value} {Δ : Δs} {u : Value}
theorem tvB {p : Pd} {n : String} {b : Bool} (h : TyP Δ p n) (k : PySem.W.kitOne K (.type n) u = some b) : IsV K Δ p u b := fun F H v hk hp => ⟨_, .x (h K F H v hk hp), k⟩
theorem tvI {cn : Str} {ns : List Str} {ps : List Pd} {C : Addr} {b : Bool} (gc : mg cn = some (.ref C)) (c : Cls K C) (f : IsF K C) (k : PySem.W.kitOne K (.ref C) u = some b) : IsV K Δ (pI mg cn ns ps) u b := fun F H v _ ⟨a, o, C', dx, vs, ev, g, h, _⟩ => by
  rw [gc] at g
  cases g
  rw [ev]
  exact ⟨_, .fIns h c f, k⟩
theorem tvS {α β : Type} {E : α → Pd} {G : β → Pd} {f : α → Bool} {g : β → Bool} {x : α ⊕ β} (h1 : ∀ y, IsV K Δ (E y) u (f y)) (h2 : ∀ y, IsV K Δ (G y) u (g y)) : IsV K Δ (pSm E G x) u (Sum.elim f g x) := by
  cases x with
  | inl y => exact h1 y
  | inr y => exact h2 y
theorem tvO {α : Type} {E : α → Pd} {f : α → Bool} {o : Option α} (h0 : PySem.W.kitOne K (.type "NoneType") u = some false) (h : ∀ y, IsV K Δ (E y) u (f y)) : IsV K Δ (pOp E o) u (o.elim false f) := by
  cases o with
  | none => exact tvB tyNon h0
  | some y => exact h y
end
section
variable {X : Cx} {W : Bool} {F : Fm} {Γ : Gm} {Δ : Δs} {γ β : Type} {T : Option γ} {k : β → Option γ} {a : Expr} {Δ1 : β → Δs} {E1 : β → Pd} {pos : Pos}
theorem x_isV {y : Str} {cv : V} {u : Value} {r : β → Bool} {p1 p2 : Pos} (hm : X.mg "isinstance" = none) (hy : X.mg y = some u ∨ X.mg y = none ∧ bootBuiltins y = some u) (cu : ClsV cv u) (ha : PE X a (tE W F Γ Δ T k E1 Δ1)) (ty : ∀ b, IsV X.K (Δ1 b) (E1 b) u (r b)) (hg : Gl X "isinstance" := by rfl) (hg2 : Gl X y := by rfl)
    (hn : y ≠ "__name__" := by decide) (hdb : (y == ("__debug__" : Str)) = false := by decide) (hs : starEach [a, .Name y p2] X.env = (false, eval a X.env) :: starEach [.Name y p2] X.env := by rfl) (hs2 : starEach [.Name y p2] X.env = (false, eval (.Name y p2) X.env) :: starEach [] X.env := by rfl) (hpl : (backTo pos (starEach [.Name y p2] X.env)).any (·.1) = false := by rfl) :
    PE X (.Call (.Name "isinstance" p1) [a, .Name y p2] [] pos) (tE W F Γ Δ T k (fun b => pBl (r b)) Δ1) := by
  have h : PE X (.Name y p2) (tC cv) := by
    have rv : RelV cv u := by cases cu with
      | ty n => rfl
      | own C => rfl
    rcases hy with h | ⟨h, hb⟩
    · exact pe_glob hg2 h rv hdb
    · exact pe_bltn hg2 h hb rv hn hdb
  exact (b_callB call_isiF hg hm boot_isinstance (by decide) (by decide) hs hs2 hpl _ _ ha h).wk fun σ H Q ⟨ok, g, e, q⟩ => ⟨ok, g, e, fun b v H1 kb f ok1 hv => by
    obtain ⟨t, h1, h2⟩ := ty b F H1 v ok1.hk hv
    exact ⟨v, cv, t, u, r b, rfl, cu, h1, h2, q b _ H1 kb f ok1 rfl⟩⟩
end
section
variable {X : Cx} {F : Fm} {Γ : Gm} {Δ : Δs} {γ β : Type} {T : Option γ} {e : Expr}
theorem a_nilK {W : Bool} {k : Unit → Option γ} (hT : T = k () := by rfl) : PA X [] (tAr W F Γ Δ T k (fun _ => []) fun _ => Δ) := by
  subst hT
  exact a_nil
end
end L3
end
section
set_option maxHeartbeats 4000000
set_option synthInstance.maxSize 2000
noncomputable section
namespace My
open PySem PySem.Spec PyProof.Rows L2 L3
@[irreducible] def M_checked_names (a1 : List Str) : Option (List Str) :=
  if (!(!a1.isEmpty)) = true then none else (some ([] : List Str)).bind fun x2 => (forL a1 (x2 : (List Str)) fun x8 s7 => if (decide (x8 ∈ s7)) = true then inB (none) else grd (s7.length < sizeLine) (some (Bo.nx (s7 ++ [x8])))).bind (boK (fun s9 => some s9) id)
@[irreducible] def M_l_is_integer (a1 : Int) : Option (Bool) :=
  some (true && (!false))
@[irreducible] def M_l_stream (a1 : List Int) (a2 : Int) : Option (List Int) :=
  (some ((0 : Int) : Int)).bind fun x12 => (if (decide (a2 < (a1.length : Int))) = true then (atI a1 a2).bind fun x16 => (some (x16 : Int)).bind fun x17 => some x17 else some x12).bind fun s15 => grd ((sm s15 || sm (if (decide (((10 : Int) ^ (18 : Int).toNat) ≤ s15)) then 1 else 0 : Int)) = true) (some ([(s15 * (if (decide (((10 : Int) ^ (18 : Int).toNat) ≤ s15)) then 1 else 0 : Int)), (0 : Int), s15]))
@[irreducible] def M_l_next (a1 : List Int) (a2 : Int) : Option (Int × (List Int)) :=
  (atI a1 (1 : Int)).bind fun x19 => (ixN a1.length (1 : Int)).bind fun (_ : Nat) => (atI (a1.set ((ixN a1.length (1 : Int)).getD 0) (x19 + (1 : Int))) (0 : Int)).bind fun x21 => if (decide ((0 : Int) < x21)) = true then (atI (a1.set ((ixN a1.length (1 : Int)).getD 0) (x19 + (1 : Int))) (0 : Int)).bind fun x23 => grd (0 < a2) ((some ((x23 % a2) : Int)).bind fun x24 => (atI (a1.set ((ixN a1.length (1 : Int)).getD 0) (x19 + (1 : Int))) (0 : Int)).bind fun x26 => grd (dv a2 = true) ((ixN (a1.set ((ixN a1.length (1 : Int)).getD 0) (x19 + (1 : Int))).length (0 : Int)).bind fun (_ : Nat) => some (x24, ((a1.set ((ixN a1.length (1 : Int)).getD 0) (x19 + (1 : Int))).set ((ixN (a1.set ((ixN a1.length (1 : Int)).getD 0) (x19 + (1 : Int))).length (0 : Int)).getD 0) (x26 / a2))))) else (atI (a1.set ((ixN a1.length (1 : Int)).getD 0) (x19 + (1 : Int))) (2 : Int)).bind fun x28 => (atI (a1.set ((ixN a1.length (1 : Int)).getD 0) (x19 + (1 : Int))) (1 : Int)).bind fun x29 => grd ((sm (7919 : Int) || sm x29) = true) (grd (0 < (2147483647 : Int)) ((some ((((x28 + ((7919 : Int) * x29)) + (13 : Int)) % (2147483647 : Int)) : Int)).bind fun x30 => grd ((sm x30 || sm (x30 + (48271 : Int))) = true) (grd (0 < (2147483629 : Int)) ((some (((x30 * (x30 + (48271 : Int))) % (2147483629 : Int)) : Int)).bind fun x32 => grd ((sm x32 || sm (x32 + (69621 : Int))) = true) ((atI (a1.set ((ixN a1.length (1 : Int)).getD 0) (x19 + (1 : Int))) (1 : Int)).bind fun x34 => grd ((sm (31 : Int) || sm x34) = true) (grd (0 < (2147483647 : Int)) ((some ((((x32 * (x32 + (69621 : Int))) + ((31 : Int) * x34)) % (2147483647 : Int)) : Int)).bind fun x35 => grd (dv (9 : Int) = true) (grd (0 < a2) (some (((x35 / (9 : Int)) % a2), (a1.set ((ixN a1.length (1 : Int)).getD 0) (x19 + (1 : Int)))))))))))))
@[irreducible] def M_l_same_state (a1 : Option (Int ⊕ (Str ⊕ (List Str)))) (a2 : (Int ⊕ (Str ⊕ (List Str)))) : Option (Bool) :=
  if ((Sum.elim (fun (_ : Int) => false) (Sum.elim (fun (_ : Str) => false) (fun (_ : List Str) => true))) a2) = true then ((if ((fun (o_ : Option (Int ⊕ (Str ⊕ (List Str)))) => o_.elim false (Sum.elim (fun (_ : Int) => false) (Sum.elim (fun (_ : Str) => false) (fun (_ : List Str) => true)))) a1) = true then (a1).bind fun u48 => (smR u48).bind fun u49 => (smR u49).bind fun u50 => (smR a2).bind fun u51 => (smR u51).bind fun u52 => grd (okG (dgTN dgStr) u50 u52 = true) (some ((decide (u50 = u52)), ())) else some (false, ()))).bind fun c53 => some (c53.1) else if ((Sum.elim (fun (_ : Int) => false) (Sum.elim (fun (_ : Str) => true) (fun (_ : List Str) => false))) a2) = true then ((if ((fun (o_ : Option (Int ⊕ (Str ⊕ (List Str)))) => o_.elim false (Sum.elim (fun (_ : Int) => false) (Sum.elim (fun (_ : Str) => true) (fun (_ : List Str) => false)))) a1) = true then (a1).bind fun u61 => (smR u61).bind fun u62 => (smL u62).bind fun u63 => (smR a2).bind fun u64 => (smL u64).bind fun u65 => some ((decide (u63 = u65)), ()) else some (false, ()))).bind fun c66 => some (c66.1) else (a1).bind fun u67 => (smL u67).bind fun u68 => (M_l_is_integer u68).bind fun r69 => ((if r69 = true then (a1).bind fun u74 => (smL u74).bind fun u75 => (smL a2).bind fun u76 => some ((decide (u75 = u76)), ()) else some (false, ()))).bind fun c77 => some (c77.1)
@[irreducible] def M_History___init__ (a1 : (Int ⊕ (Str ⊕ (List Str)))) : Option (((List (Int ⊕ (Str ⊕ (List Str)))) × (List (Int ⊕ (Str ⊕ (List Str)))))) :=
  some ([a1], [])
@[irreducible] def M_History_state (a1 : ((List (Int ⊕ (Str ⊕ (List Str)))) × (List (Int ⊕ (Str ⊕ (List Str)))))) : Option ((Int ⊕ (Str ⊕ (List Str)))) :=
  (atI a1.1 (-(1 : Int))).bind fun x151 => some x151
@[irreducible] def M_History_steps (a1 : ((List (Int ⊕ (Str ⊕ (List Str)))) × (List (Int ⊕ (Str ⊕ (List Str)))))) : Option (Int) :=
  some ((a1.1.length : Int) - (1 : Int))
@[irreducible] def M_History_undone (a1 : ((List (Int ⊕ (Str ⊕ (List Str)))) × (List (Int ⊕ (Str ⊕ (List Str)))))) : Option (Int) :=
  some (a1.2.length : Int)
@[irreducible] def M_History_push (a1 : ((List (Int ⊕ (Str ⊕ (List Str)))) × (List (Int ⊕ (Str ⊕ (List Str)))))) (a2 : (Int ⊕ (Str ⊕ (List Str)))) : Option (Unit × ((List (Int ⊕ (Str ⊕ (List Str)))) × (List (Int ⊕ (Str ⊕ (List Str)))))) :=
  grd (a1.1.length < sizeLine) (some ((), ((a1.1 ++ [a2]), ([] : List (Int ⊕ (Str ⊕ (List Str)))))))
@[irreducible] def M_History_undo (a1 : ((List (Int ⊕ (Str ⊕ (List Str)))) × (List (Int ⊕ (Str ⊕ (List Str)))))) : Option (Except Er ((Int ⊕ (Str ⊕ (List Str))) × ((List (Int ⊕ (Str ⊕ (List Str)))) × (List (Int ⊕ (Str ⊕ (List Str))))))) :=
  if (decide ((a1.1.length : Int) = (1 : Int))) = true then some ((Except.error) (⟨"NothingToUndo", []⟩ : Er)) else (popL a1.1).bind fun q159 => grd (a1.2.length < sizeLine) ((atI (q159.2) (-(1 : Int))).bind fun x161 => some (Except.ok (ε := Er) (x161, (q159.2, (a1.2 ++ [q159.1])))))
@[irreducible] def M_History_redo (a1 : ((List (Int ⊕ (Str ⊕ (List Str)))) × (List (Int ⊕ (Str ⊕ (List Str)))))) : Option (Except Er ((Int ⊕ (Str ⊕ (List Str))) × ((List (Int ⊕ (Str ⊕ (List Str)))) × (List (Int ⊕ (Str ⊕ (List Str))))))) :=
  if (!(!a1.2.isEmpty)) = true then some ((Except.error) (⟨"NothingToRedo", []⟩ : Er)) else (popL a1.2).bind fun q167 => grd (a1.1.length < sizeLine) ((atI (a1.1 ++ [q167.1]) (-(1 : Int))).bind fun x169 => some (Except.ok (ε := Er) (x169, ((a1.1 ++ [q167.1]), q167.2))))
@[irreducible] def M_History_back_to (a1 : ((List (Int ⊕ (Str ⊕ (List Str)))) × (List (Int ⊕ (Str ⊕ (List Str)))))) (a2 : Int) : Option (Except Er ((Int ⊕ (Str ⊕ (List Str))) × ((List (Int ⊕ (Str ⊕ (List Str)))) × (List (Int ⊕ (Str ⊕ (List Str))))))) :=
  if ((decide (a2 < (0 : Int))) || (decide ((a1.1.length : Int) ≤ a2))) = true then some ((Except.error) (⟨"UnknownStep", [.int a2]⟩ : Er)) else (whL wfuel (fun s175 => if (decide (a2 < (((s175.2).length : Int) - (1 : Int)))) = true then ((popL (s175.2)).bind fun q181 => grd ((s175.1).length < sizeLine) (some (Bo.nx (((s175.1) ++ [q181.1]), q181.2)))).bind (fun o_ => some (some o_)) else some none) ((a1.2, a1.1) : (List (Int ⊕ (Str ⊕ (List Str)))) × (List (Int ⊕ (Str ⊕ (List Str)))))).bind (boK (fun s176 => (atI (s176.2) (-(1 : Int))).bind fun x178 => some (Except.ok (ε := Er) (x178, (s176.2, s176.1)))) (fun e : Empty => nomatch e))
@[irreducible] def M_Unlike___init__ (a1 : List Str) : Option (List Str) :=
  (M_checked_names a1).bind fun r183 => some r183
@[irreducible] def M_l_state (a1 : List Int) : Option ((Int ⊕ (Str ⊕ (List Str))) × (List Int)) :=
  (M_l_next a1 (5 : Int)).bind fun r185 => (some (r185.1 : Int)).bind fun x186 => if (decide (x186 = (4 : Int))) = true then (M_l_next (r185.2) (100 : Int)).bind fun r189 => grd ((r189.1).natAbs.log2 < 1920) (grd (("b" : Str).length + (Str.ofString (toString (r189.1))).length ≤ sizeLine) ((M_Unlike___init__ ([("a" : Str), (("b" : Str) ++ (Str.ofString (toString (r189.1))))])).bind fun r190 => some ((.inr (.inr r190 : (Str ⊕ (List Str))) : (Int ⊕ (Str ⊕ (List Str)))), r189.2))) else if (decide (x186 = (0 : Int))) = true then (M_l_next (r185.2) (5 : Int)).bind fun r192 => some ((.inl ((r192.1) - (2 : Int)) : (Int ⊕ (Str ⊕ (List Str)))), r192.2) else if (decide (x186 = (1 : Int))) = true then (M_l_next (r185.2) (6 : Int)).bind fun r194 => (atI ([("" : Str), ("a" : Str), ("0" : Str), ("state" : Str), ("b7" : Str), ("-1" : Str)]) (r194.1)).bind fun x195 => some ((.inr (.inl x195 : (Str ⊕ (List Str))) : (Int ⊕ (Str ⊕ (List Str)))), r194.2) else if (decide (x186 = (2 : Int))) = true then (M_l_next (r185.2) (1000 : Int)).bind fun r197 => grd ((sm ((r197.1) - (500 : Int)) || sm ((10 : Int) ^ (9 : Int).toNat)) = true) (some ((.inl (((r197.1) - (500 : Int)) * ((10 : Int) ^ (9 : Int).toNat)) : (Int ⊕ (Str ⊕ (List Str)))), r197.2)) else (M_l_next (r185.2) (100 : Int)).bind fun r198 => grd ((r198.1).natAbs.log2 < 1920) (grd (("s" : Str).length + (Str.ofString (toString (r198.1))).length ≤ sizeLine) (some ((.inr (.inl (("s" : Str) ++ (Str.ofString (toString (r198.1)))) : (Str ⊕ (List Str))) : (Int ⊕ (Str ⊕ (List Str)))), r198.2)))
@[irreducible] def M_l_looks (a1 : ((List (Int ⊕ (Str ⊕ (List Str)))) × (List (Int ⊕ (Str ⊕ (List Str)))))) (a2 : List (Int ⊕ (Str ⊕ (List Str)))) (a3 : List (Int ⊕ (Str ⊕ (List Str)))) : Option (Bool) :=
  grd (rg (2 : Int) = true) ((forL (rngL 0 (2 : Int).toNat) (() : Unit) fun x201 s200 => (M_History_state a1).bind fun r203 => (atI a2 (-(1 : Int))).bind fun x204 => (M_l_same_state (some r203) x204).bind fun r205 => if (!r205) = true then inB (some (Tm.rt false)) else (M_History_steps a1).bind fun r207 => (M_l_is_integer r207).bind fun r208 => ((if (!r208) = true then some (true, ()) else (M_History_steps a1).bind fun r211 => some ((!decide (r211 = ((a2.length : Int) - (1 : Int)))), ()))).bind fun c212 => if c212.1 = true then inB (some (Tm.rt false)) else (M_History_undone a1).bind fun r214 => (M_l_is_integer r214).bind fun r215 => ((if (!r215) = true then some (true, ()) else (M_History_undone a1).bind fun r218 => some ((!decide (r218 = (a3.length : Int))), ()))).bind fun c219 => if c219.1 = true then inB (some (Tm.rt false)) else some (Bo.nx ())).bind (boK (fun s202 => some true) id))
@[irreducible] def M_l_undo (a1 : ((List (Int ⊕ (Str ⊕ (List Str)))) × (List (Int ⊕ (Str ⊕ (List Str)))))) (a2 : List (Int ⊕ (Str ⊕ (List Str)))) (a3 : List (Int ⊕ (Str ⊕ (List Str)))) : Option (Bool × ((List (Int ⊕ (Str ⊕ (List Str)))) × (List (Int ⊕ (Str ⊕ (List Str))))) × (List (Int ⊕ (Str ⊕ (List Str)))) × (List (Int ⊕ (Str ⊕ (List Str))))) :=
  (some (false : Bool)).bind fun x221 => (some ((none : Option (Int ⊕ (Str ⊕ (List Str)))) : Option (Int ⊕ (Str ⊕ (List Str))))).bind fun x223 => ((M_History_undo a1).bind (xK (fun e => Bo.tm ((Except.error) e)) fun r235 => (some ((some (r235.1)) : Option (Int ⊕ (Str ⊕ (List Str))))).bind fun x236 => some (Bo.nx (x221, x236, r235.2)))).bind (tryK (fun s225 => if (decide ((a2.length : Int) = (1 : Int))) = true then some (s225.1, s225.2.2, a2, a3) else (popL a2).bind fun q227 => grd (a3.length < sizeLine) (((if (!(s225.1)) = true then (atI (q227.2) (-(1 : Int))).bind fun x232 => (M_l_same_state (s225.2.1) x232).bind fun r233 => some (r233, ()) else some (false, ()))).bind fun c234 => some (c234.1, s225.2.2, q227.2, (a3 ++ [q227.1])))) id (fun e => subC e.cn "NothingToUndo") (fun e238 => if ((!(subC e238.cn "DeskError")) || (!(subC e238.cn "ValueError"))) = true then inB (some (false, a1, a2, a3)) else if ((["UnknownName", "RepeatedName", "UnknownValue", "RepeatedValue", "UnknownKey", "RepeatedKey", "EmptyRule"] : List Str).any (subC e238.cn)) = true then inB (some (false, a1, a2, a3)) else if ((["BadRow", "BadBounds", "BadNumber", "BadStep", "NoMark", "NotStruck", "BadOrder", "NotBare", "NoClash"] : List Str).any (subC e238.cn)) = true then inB (some (false, a1, a2, a3)) else if ((["HoldsAnswer", "BadLine", "UnknownLine", "BadText", "NothingToRedo", "UnknownStep", "BadDeed"] : List Str).any (subC e238.cn)) = true then inB (some (false, a1, a2, a3)) else (some (true : Bool)).bind fun x243 => some (Bo.nx (x243, x223, a1))) (fun _ => none))
@[irreducible] def M_l_redo (a1 : ((List (Int ⊕ (Str ⊕ (List Str)))) × (List (Int ⊕ (Str ⊕ (List Str)))))) (a2 : List (Int ⊕ (Str ⊕ (List Str)))) (a3 : List (Int ⊕ (Str ⊕ (List Str)))) : Option (Bool × ((List (Int ⊕ (Str ⊕ (List Str)))) × (List (Int ⊕ (Str ⊕ (List Str))))) × (List (Int ⊕ (Str ⊕ (List Str)))) × (List (Int ⊕ (Str ⊕ (List Str))))) :=
  (some (false : Bool)).bind fun x245 => (some ((none : Option (Int ⊕ (Str ⊕ (List Str)))) : Option (Int ⊕ (Str ⊕ (List Str))))).bind fun x247 => ((M_History_redo a1).bind (xK (fun e => Bo.tm ((Except.error) e)) fun r259 => (some ((some (r259.1)) : Option (Int ⊕ (Str ⊕ (List Str))))).bind fun x260 => some (Bo.nx (x245, x260, r259.2)))).bind (tryK (fun s249 => if (decide ((a3.length : Int) = (0 : Int))) = true then some (s249.1, s249.2.2, a2, a3) else (popL a3).bind fun q251 => grd (a2.length < sizeLine) (((if (!(s249.1)) = true then (atI (a2 ++ [q251.1]) (-(1 : Int))).bind fun x256 => (M_l_same_state (s249.2.1) x256).bind fun r257 => some (r257, ()) else some (false, ()))).bind fun c258 => some (c258.1, s249.2.2, (a2 ++ [q251.1]), q251.2))) id (fun e => subC e.cn "NothingToRedo") (fun e262 => if ((!(subC e262.cn "DeskError")) || (!(subC e262.cn "ValueError"))) = true then inB (some (false, a1, a2, a3)) else if ((["UnknownName", "RepeatedName", "UnknownValue", "RepeatedValue", "UnknownKey", "RepeatedKey", "EmptyRule"] : List Str).any (subC e262.cn)) = true then inB (some (false, a1, a2, a3)) else if ((["BadRow", "BadBounds", "BadNumber", "BadStep", "NoMark", "NotStruck", "BadOrder", "NotBare", "NoClash"] : List Str).any (subC e262.cn)) = true then inB (some (false, a1, a2, a3)) else if ((["HoldsAnswer", "BadLine", "UnknownLine", "BadText", "NothingToUndo", "UnknownStep", "BadDeed"] : List Str).any (subC e262.cn)) = true then inB (some (false, a1, a2, a3)) else (some (true : Bool)).bind fun x267 => some (Bo.nx (x267, x247, a1))) (fun _ => none))
@[irreducible] def M_l_back (a1 : ((List (Int ⊕ (Str ⊕ (List Str)))) × (List (Int ⊕ (Str ⊕ (List Str)))))) (a2 : List (Int ⊕ (Str ⊕ (List Str)))) (a3 : List (Int ⊕ (Str ⊕ (List Str)))) (a4 : Int) : Option (Bool × ((List (Int ⊕ (Str ⊕ (List Str)))) × (List (Int ⊕ (Str ⊕ (List Str))))) × (List (Int ⊕ (Str ⊕ (List Str)))) × (List (Int ⊕ (Str ⊕ (List Str))))) :=
  (some (false : Bool)).bind fun x269 => (some ((none : Option (Int ⊕ (Str ⊕ (List Str)))) : Option (Int ⊕ (Str ⊕ (List Str))))).bind fun x271 => ((M_History_back_to a1 a4).bind (xK (fun e => Bo.tm ((Except.error) e)) fun r287 => (some ((some (r287.1)) : Option (Int ⊕ (Str ⊕ (List Str))))).bind fun x288 => some (Bo.nx (x269, x288, r287.2)))).bind (tryK (fun s273 => if ((decide (a4 < (0 : Int))) || (decide ((a2.length : Int) ≤ a4))) = true then some (s273.1, s273.2.2, a2, a3) else grd (rg (((a2.length : Int) - (1 : Int)) - a4) = true) ((forS (rngL 0 (((a2.length : Int) - (1 : Int)) - a4).toNat) ((a2, a3) : (List (Int ⊕ (Str ⊕ (List Str)))) × (List (Int ⊕ (Str ⊕ (List Str))))) fun x277 s276 => (popL (s276.1)).bind fun q285 => grd ((s276.2).length < sizeLine) (some (q285.2, ((s276.2) ++ [q285.1])))).bind fun s278 => ((if (!(s273.1)) = true then (atI (s278.1) (-(1 : Int))).bind fun x282 => (M_l_same_state (s273.2.1) x282).bind fun r283 => some (r283, ()) else some (false, ()))).bind fun c284 => some (c284.1, s273.2.2, s278.1, s278.2))) id (fun e => subC e.cn "UnknownStep") (fun e290 => if ((!(subC e290.cn "DeskError")) || (!(subC e290.cn "ValueError"))) = true then inB (some (false, a1, a2, a3)) else if ((["UnknownName", "RepeatedName", "UnknownValue", "RepeatedValue", "UnknownKey", "RepeatedKey", "EmptyRule"] : List Str).any (subC e290.cn)) = true then inB (some (false, a1, a2, a3)) else if ((["BadRow", "BadBounds", "BadNumber", "BadStep", "NoMark", "NotStruck", "BadOrder", "NotBare", "NoClash"] : List Str).any (subC e290.cn)) = true then inB (some (false, a1, a2, a3)) else if ((["HoldsAnswer", "BadLine", "UnknownLine", "BadText", "NothingToUndo", "NothingToRedo", "BadDeed"] : List Str).any (subC e290.cn)) = true then inB (some (false, a1, a2, a3)) else (erF e290 "number").bind fun y295 => (FV.int? y295).bind fun z296 => (M_l_is_integer z296).bind fun r297 => ((if (!r297) = true then some (true, ()) else (erF e290 "number").bind fun y301 => (FV.int? y301).bind fun z302 => some ((!decide (z302 = a4)), ()))).bind fun c303 => if c303.1 = true then inB (some (false, a1, a2, a3)) else (some (true : Bool)).bind fun x305 => some (Bo.nx (x305, x271, a1))) (fun _ => none))
@[irreducible] def M_l_push (a1 : ((List (Int ⊕ (Str ⊕ (List Str)))) × (List (Int ⊕ (Str ⊕ (List Str)))))) (a2 : List (Int ⊕ (Str ⊕ (List Str)))) (a3 : List (Int ⊕ (Str ⊕ (List Str)))) (a4 : (Int ⊕ (Str ⊕ (List Str)))) : Option (Bool × ((List (Int ⊕ (Str ⊕ (List Str)))) × (List (Int ⊕ (Str ⊕ (List Str))))) × (List (Int ⊕ (Str ⊕ (List Str)))) × (List (Int ⊕ (Str ⊕ (List Str))))) :=
  (M_History_push a1 a4).bind fun r307 => (some (() : Unit)).bind fun x308 => grd (a2.length < sizeLine) (some (((none : Option Int).isNone), r307.2, (a2 ++ [a4]), ([] : List (Int ⊕ (Str ⊕ (List Str))))))
@[irreducible] def M_l_deed (a1 : ((List (Int ⊕ (Str ⊕ (List Str)))) × (List (Int ⊕ (Str ⊕ (List Str)))))) (a2 : List (Int ⊕ (Str ⊕ (List Str)))) (a3 : List (Int ⊕ (Str ⊕ (List Str)))) (a4 : List Int) : Option (Bool × ((List (Int ⊕ (Str ⊕ (List Str)))) × (List (Int ⊕ (Str ⊕ (List Str))))) × (List (Int ⊕ (Str ⊕ (List Str)))) × (List (Int ⊕ (Str ⊕ (List Str)))) × (List Int)) :=
  (M_l_next a4 (8 : Int)).bind fun r312 => (some (r312.1 : Int)).bind fun x313 => if (decide (x313 = (3 : Int))) = true then (atI a2 (-(1 : Int))).bind fun x316 => (M_l_push a1 a2 a3 x316).bind fun r317 => some (r317.1, r317.2.1, r317.2.2.1, r317.2.2.2, r312.2) else if (decide (x313 < (3 : Int))) = true then (M_l_state (r312.2)).bind fun r319 => (M_l_push a1 a2 a3 (r319.1)).bind fun r320 => some (r320.1, r320.2.1, r320.2.2.1, r320.2.2.2, r319.2) else if (decide (x313 < (6 : Int))) = true then (M_l_undo a1 a2 a3).bind fun r322 => some (r322.1, r322.2.1, r322.2.2.1, r322.2.2.2, r312.2) else if (decide (x313 = (6 : Int))) = true then (M_l_redo a1 a2 a3).bind fun r324 => some (r324.1, r324.2.1, r324.2.2.1, r324.2.2.2, r312.2) else (M_l_next (r312.2) ((a2.length : Int) + (2 : Int))).bind fun r325 => (M_l_back a1 a2 a3 ((r325.1) - (1 : Int))).bind fun r326 => some (r326.1, r326.2.1, r326.2.2.1, r326.2.2.2, r325.2)
@[irreducible] def M_l_down_and_up (a1 : ((List (Int ⊕ (Str ⊕ (List Str)))) × (List (Int ⊕ (Str ⊕ (List Str)))))) (a2 : List (Int ⊕ (Str ⊕ (List Str)))) (a3 : List (Int ⊕ (Str ⊕ (List Str)))) : Option (Bool × ((List (Int ⊕ (Str ⊕ (List Str)))) × (List (Int ⊕ (Str ⊕ (List Str))))) × (List (Int ⊕ (Str ⊕ (List Str)))) × (List (Int ⊕ (Str ⊕ (List Str))))) :=
  grd (rg (a2.length : Int) = true) ((forL (rngL 0 (a2.length : Int).toNat) ((a1, a2, a3) : ((List (Int ⊕ (Str ⊕ (List Str)))) × (List (Int ⊕ (Str ⊕ (List Str))))) × (List (Int ⊕ (Str ⊕ (List Str)))) × (List (Int ⊕ (Str ⊕ (List Str))))) fun x329 s328 => (M_l_undo (s328.1) (s328.2.1) (s328.2.2)).bind fun r363 => ((if (!(r363.1)) = true then some (true, ()) else (M_l_looks (r363.2.1) (r363.2.2.1) (r363.2.2.2)).bind fun r366 => some ((!r366), ()))).bind fun c367 => if c367.1 = true then inB (some (Tm.rt (false, r363.2.1, r363.2.2.1, r363.2.2.2))) else some (Bo.nx (r363.2.1, r363.2.2.1, r363.2.2.2))).bind (boK (fun s330 => grd (rg (((s330.2.2).length : Int) + (1 : Int)) = true) ((forL (rngL 0 (((s330.2.2).length : Int) + (1 : Int)).toNat) ((s330.1, s330.2.1, s330.2.2) : ((List (Int ⊕ (Str ⊕ (List Str)))) × (List (Int ⊕ (Str ⊕ (List Str))))) × (List (Int ⊕ (Str ⊕ (List Str)))) × (List (Int ⊕ (Str ⊕ (List Str))))) fun x333 s332 => (M_l_redo (s332.1) (s332.2.1) (s332.2.2)).bind fun r357 => ((if (!(r357.1)) = true then some (true, ()) else (M_l_looks (r357.2.1) (r357.2.2.1) (r357.2.2.2)).bind fun r360 => some ((!r360), ()))).bind fun c361 => if c361.1 = true then inB (some (Tm.rt (false, r357.2.1, r357.2.2.1, r357.2.2.2))) else some (Bo.nx (r357.2.1, r357.2.2.1, r357.2.2.2))).bind (boK (fun s334 => grd (dv (2 : Int) = true) ((forL ([(-(1 : Int)), ((s334.2.1).length : Int), (((s334.2.1).length : Int) - (1 : Int)), (((s334.2.1).length : Int) / (2 : Int)), (0 : Int)]) ((s334.1, s334.2.1, s334.2.2) : ((List (Int ⊕ (Str ⊕ (List Str)))) × (List (Int ⊕ (Str ⊕ (List Str))))) × (List (Int ⊕ (Str ⊕ (List Str)))) × (List (Int ⊕ (Str ⊕ (List Str))))) fun x337 s336 => (M_l_back (s336.1) (s336.2.1) (s336.2.2) x337).bind fun r351 => ((if (!(r351.1)) = true then some (true, ()) else (M_l_looks (r351.2.1) (r351.2.2.1) (r351.2.2.2)).bind fun r354 => some ((!r354), ()))).bind fun c355 => if c355.1 = true then inB (some (Tm.rt (false, r351.2.1, r351.2.2.1, r351.2.2.2))) else some (Bo.nx (r351.2.1, r351.2.2.1, r351.2.2.2))).bind (boK (fun s338 => (atI (s338.2.1) (-(1 : Int))).bind fun x339 => (M_l_push (s338.1) (s338.2.1) (s338.2.2) x339).bind fun r340 => ((if (!(r340.1)) = true then some (true, ()) else (M_l_looks (r340.2.1) (r340.2.2.1) (r340.2.2.2)).bind fun r343 => some ((!r343), ()))).bind fun c344 => if c344.1 = true then some (false, r340.2.1, r340.2.2.1, r340.2.2.2) else (M_l_redo (r340.2.1) (r340.2.2.1) (r340.2.2.2)).bind fun r346 => ((if r346.1 = true then (M_l_looks (r346.2.1) (r346.2.2.1) (r346.2.2.2)).bind fun r349 => some (r349, ()) else some (false, ()))).bind fun c350 => some (c350.1, r346.2.1, r346.2.2.1, r346.2.2.2)) id))) id))) id))
@[irreducible] def M_l_long_holds  : Option (Bool) :=
  (M_History___init__ (.inl (0 : Int) : (Int ⊕ (Str ⊕ (List Str))))).bind fun r369 => (some (r369 : ((List (Int ⊕ (Str ⊕ (List Str)))) × (List (Int ⊕ (Str ⊕ (List Str))))))).bind fun x370 => grd (rg (1500 : Int) = true) ((forS (rngL 0 (1500 : Int).toNat) (x370 : ((List (Int ⊕ (Str ⊕ (List Str)))) × (List (Int ⊕ (Str ⊕ (List Str)))))) fun x376 s375 => (M_History_push s375 (.inl x376 : (Int ⊕ (Str ⊕ (List Str))))).bind fun r409 => some (r409.2)).bind fun s377 => ((M_History_back_to s377 (0 : Int)).bind okx).bind fun r378 => (smL (r378.1)).bind fun u379 => ((if (!decide (u379 = (0 : Int))) = true then some (true, ()) else (M_History_steps (r378.2)).bind fun r383 => ((if (!decide (r383 = (0 : Int))) = true then some (true, ()) else (M_History_undone (r378.2)).bind fun r386 => some ((!decide (r386 = (1500 : Int))), ()))).bind fun c387 => some (c387.1, ()))).bind fun c388 => if c388.1 = true then some false else ((M_History_redo (r378.2)).bind okx).bind fun r390 => (smL (r390.1)).bind fun u391 => ((if (decide (u391 = (0 : Int))) = true then ((M_History_redo (r390.2)).bind okx).bind fun r397 => (smL (r397.1)).bind fun u398 => ((if (decide (u398 = (1 : Int))) = true then (M_History_steps (r397.2)).bind fun r402 => ((if (decide (r402 = (2 : Int))) = true then (M_History_undone (r397.2)).bind fun r405 => some ((decide (r405 = (1498 : Int))), ()) else some (false, ()))).bind fun c406 => some (c406.1, ()) else some (false, ()))).bind fun c407 => some (c407.1, r397.2) else some (false, r390.2))).bind fun c408 => some (c408.1))
@[irreducible] def M_law (a1 : List Int) : Option (Bool) :=
  (M_l_stream a1 (0 : Int)).bind fun r411 => (some (r411 : List Int)).bind fun x412 => (M_l_state x412).bind fun r416 => (some (r416.1 : (Int ⊕ (Str ⊕ (List Str))))).bind fun x417 => (M_l_state (r416.2)).bind fun r419 => (some (r419.1 : (Int ⊕ (Str ⊕ (List Str))))).bind fun x420 => (M_History___init__ x417).bind fun r422 => (M_History___init__ x420).bind fun r423 => (some ([r422, r423] : List ((List (Int ⊕ (Str ⊕ (List Str)))) × (List (Int ⊕ (Str ⊕ (List Str))))))).bind fun x424 => (some ([[x417], [x420]] : List (List (Int ⊕ (Str ⊕ (List Str)))))).bind fun x428 => (some ([[], []] : List (List (Int ⊕ (Str ⊕ (List Str)))))).bind fun x432 => grd (rg2 (1 : Int) (min (a1.length : Int) (63 : Int)) = true) ((forL (rngL (1 : Int) ((min (a1.length : Int) (63 : Int)) - (1 : Int)).toNat) ((x432, x428, x424) : (List (List (Int ⊕ (Str ⊕ (List Str))))) × (List (List (Int ⊕ (Str ⊕ (List Str))))) × (List ((List (Int ⊕ (Str ⊕ (List Str)))) × (List (Int ⊕ (Str ⊕ (List Str))))))) fun x438 s437 => (M_l_stream a1 x438).bind fun r473 => (some (r473 : List Int)).bind fun x474 => (M_l_next x474 (4 : Int)).bind fun r478 => grd (dv (3 : Int) = true) ((some (((r478.1) / (3 : Int)) : Int)).bind fun x479 => (ixN (s437.2.2).length x479).bind fun m481 => ((s437.2.2)[m481]?).bind fun x482 => (ixN (s437.2.1).length x479).bind fun m485 => ((s437.2.1)[m485]?).bind fun x486 => (ixN (s437.1).length x479).bind fun m489 => ((s437.1)[m489]?).bind fun x490 => (M_l_deed x482 x486 x490 (r478.2)).bind fun r493 => if (!(r493.1)) = true then inB (some (Tm.rt false)) else (M_l_next (r493.2.2.2.2) (2 : Int)).bind fun r495 => (if (decide ((r495.1) = (0 : Int))) = true then grd (rg (2 : Int) = true) ((forL (rngL 0 (2 : Int).toNat) (() : Unit) fun x500 s499 => (atI ((s437.2.2).set m481 (r493.2.1)) x500).bind fun x502 => (atI ((s437.2.1).set m485 (r493.2.2.1)) x500).bind fun x503 => (atI ((s437.1).set m489 (r493.2.2.2.1)) x500).bind fun x504 => (M_l_looks x502 x503 x504).bind fun r505 => if (!r505) = true then inB (some (Tm.rt false)) else some (Bo.nx ())).bind (boK (fun s501 => some (Bo.nx (r495.2))) (fun r => Bo.tm (Tm.rt r)))) else some (Bo.nx (r495.2))).bind (boK (fun s497 => some (Bo.nx (((s437.1).set m489 (r493.2.2.2.1)), ((s437.2.1).set m485 (r493.2.2.1)), ((s437.2.2).set m481 (r493.2.1))))) Bo.tm))).bind (boK (fun s439 => (M_l_next (r419.2) (16 : Int)).bind fun r440 => ((if (decide ((r440.1) = (15 : Int))) = true then (M_l_long_holds).bind fun r443 => some ((!r443), ()) else some (false, ()))).bind fun c444 => if c444.1 = true then some false else grd (rg (2 : Int) = true) ((forL (rngL 0 (2 : Int).toNat) ((s439.1, s439.2.1, s439.2.2) : (List (List (Int ⊕ (Str ⊕ (List Str))))) × (List (List (Int ⊕ (Str ⊕ (List Str))))) × (List ((List (Int ⊕ (Str ⊕ (List Str)))) × (List (Int ⊕ (Str ⊕ (List Str))))))) fun x448 s447 => (atI (s447.2.2) x448).bind fun x454 => (atI (s447.2.1) x448).bind fun x455 => (atI (s447.1) x448).bind fun x456 => (M_l_looks x454 x455 x456).bind fun r457 => if (!r457) = true then inB (some (Tm.rt false)) else (ixN (s447.2.2).length x448).bind fun m459 => ((s447.2.2)[m459]?).bind fun x460 => (ixN (s447.2.1).length x448).bind fun m463 => ((s447.2.1)[m463]?).bind fun x464 => (ixN (s447.1).length x448).bind fun m467 => ((s447.1)[m467]?).bind fun x468 => (M_l_down_and_up x460 x464 x468).bind fun r471 => if (!(r471.1)) = true then inB (some (Tm.rt false)) else some (Bo.nx (((s447.1).set m467 (r471.2.2.2)), ((s447.2.1).set m463 (r471.2.2.1)), ((s447.2.2).set m459 (r471.2.1))))).bind (boK (fun s449 => (atI (s449.2.2) (0 : Int)).bind fun x450 => (atI (s449.2.1) (0 : Int)).bind fun x451 => (atI (s449.1) (0 : Int)).bind fun x452 => (M_l_looks x450 x451 x452).bind fun r453 => some r453) id))) id))
end My
end
section
set_option maxHeartbeats 4000000
set_option synthInstance.maxSize 2000
namespace My
open PySem PySem.Spec PyProof.Rows L2 L3
abbrev FnP (K : PySem.W.Frag) (x : Str) (st : Stmt) (f : Addr) (fd : FuncData) : Prop := FunD K x x (defArgs st) (defBody st) (defScope st) [] [] f fd
abbrev I_Unlike (mg : Str → Option Value) (z_ : List Str) : Pd := pI mg "Unlike" ["names"] [(pTN pStr) z_]
abbrev O_Unlike (mg : Str → Option Value) (z_ : List Str) : Od := oI mg "Unlike" ["names"] [(pTN pStr) z_]
abbrev I_History (mg : Str → Option Value) (z_ : ((List (Int ⊕ (Str ⊕ (List Str)))) × (List (Int ⊕ (Str ⊕ (List Str)))))) : Pd := pI mg "History" ["_done", "_undone"] [(pL (pSm pInt (pSm pStr (I_Unlike mg)))) z_.1, (pL (pSm pInt (pSm pStr (I_Unlike mg)))) z_.2]
abbrev O_History (mg : Str → Option Value) (z_ : ((List (Int ⊕ (Str ⊕ (List Str)))) × (List (Int ⊕ (Str ⊕ (List Str)))))) : Od := oIO mg "History" ["_done", "_undone"] [(oL (pSm pInt (pSm pStr (I_Unlike mg)))) z_.1, (oL (pSm pInt (pSm pStr (I_Unlike mg)))) z_.2]
structure Ev (P : Program) (K : PySem.W.Frag) (mg : Str → Option Value) : Prop where
  xs : XsT P K mg rsL csL
  c_History : ∃ (C f : Addr) (fd : FuncData), mg "History" = some (.ref C) ∧ Cls K C ∧ Mk K C f ∧ FunD K "__init__" "History.__init__" (defArgs (mth 28 0)) (defBody (mth 28 0)) (defScope (mth 28 0)) [] [] f fd ∧ NoAttr K C "_done" ∧ NoAttr K C "_undone"
  c_Unlike : ∃ (C f : Addr) (fd : FuncData), mg "Unlike" = some (.ref C) ∧ Cls K C ∧ Mk K C f ∧ FunD K "__init__" "Unlike.__init__" (defArgs (mth 32 0)) (defBody (mth 32 0)) (defScope (mth 32 0)) [] [] f fd ∧ NoAttr K C "names"
  f__wall : ∃ (f : Addr) (fd : FuncData), FnP K "_wall" (top 0) f fd ∧ mg "_wall" = some (.ref f)
  f_checked_names : ∃ (f : Addr) (fd : FuncData), FnP K "checked_names" (top 30) f fd ∧ mg "checked_names" = some (.ref f)
  f_l_is_integer : ∃ (f : Addr) (fd : FuncData), FnP K "_law_is_integer" (top 34) f fd ∧ mg "_law_is_integer" = some (.ref f)
  f_l_stream : ∃ (f : Addr) (fd : FuncData), FnP K "_law_stream" (top 35) f fd ∧ mg "_law_stream" = some (.ref f)
  f_l_next : ∃ (f : Addr) (fd : FuncData), FnP K "_law_next" (top 36) f fd ∧ mg "_law_next" = some (.ref f)
  f_l_state : ∃ (f : Addr) (fd : FuncData), FnP K "_law_state" (top 37) f fd ∧ mg "_law_state" = some (.ref f)
  f_l_same_state : ∃ (f : Addr) (fd : FuncData), FnP K "_law_same_state" (top 38) f fd ∧ mg "_law_same_state" = some (.ref f)
  f_l_looks : ∃ (f : Addr) (fd : FuncData), FnP K "_law_looks" (top 39) f fd ∧ mg "_law_looks" = some (.ref f)
  f_l_undo : ∃ (f : Addr) (fd : FuncData), FnP K "_law_undo" (top 40) f fd ∧ mg "_law_undo" = some (.ref f)
  f_l_redo : ∃ (f : Addr) (fd : FuncData), FnP K "_law_redo" (top 41) f fd ∧ mg "_law_redo" = some (.ref f)
  f_l_back : ∃ (f : Addr) (fd : FuncData), FnP K "_law_back" (top 42) f fd ∧ mg "_law_back" = some (.ref f)
  f_l_push : ∃ (f : Addr) (fd : FuncData), FnP K "_law_push" (top 43) f fd ∧ mg "_law_push" = some (.ref f)
  f_l_deed : ∃ (f : Addr) (fd : FuncData), FnP K "_law_deed" (top 44) f fd ∧ mg "_law_deed" = some (.ref f)
  f_l_down_and_up : ∃ (f : Addr) (fd : FuncData), FnP K "_law_down_and_up" (top 45) f fd ∧ mg "_law_down_and_up" = some (.ref f)
  f_l_long_holds : ∃ (f : Addr) (fd : FuncData), FnP K "_law_long_holds" (top 46) f fd ∧ mg "_law_long_holds" = some (.ref f)
  f_History_state : ∃ (C p f : Addr) (fd : FuncData), mg "History" = some (.ref C) ∧ Cls K C ∧ PropOf K C "state" p f ∧ FunD K "state" "History.state" (defArgs (mth 28 1)) (defBody (mth 28 1)) (defScope (mth 28 1)) [] [] f fd
  f_History_steps : ∃ (C p f : Addr) (fd : FuncData), mg "History" = some (.ref C) ∧ Cls K C ∧ PropOf K C "steps" p f ∧ FunD K "steps" "History.steps" (defArgs (mth 28 2)) (defBody (mth 28 2)) (defScope (mth 28 2)) [] [] f fd
  f_History_undone : ∃ (C p f : Addr) (fd : FuncData), mg "History" = some (.ref C) ∧ Cls K C ∧ PropOf K C "undone" p f ∧ FunD K "undone" "History.undone" (defArgs (mth 28 3)) (defBody (mth 28 3)) (defScope (mth 28 3)) [] [] f fd
  f_History_push : ∃ (C f : Addr) (fd : FuncData), mg "History" = some (.ref C) ∧ Cls K C ∧ Meth K C "push" f ∧ FunD K "push" "History.push" (defArgs (mth 28 4)) (defBody (mth 28 4)) (defScope (mth 28 4)) [] [] f fd
  f_History_undo : ∃ (C f : Addr) (fd : FuncData), mg "History" = some (.ref C) ∧ Cls K C ∧ Meth K C "undo" f ∧ FunD K "undo" "History.undo" (defArgs (mth 28 5)) (defBody (mth 28 5)) (defScope (mth 28 5)) [] [] f fd
  f_History_redo : ∃ (C f : Addr) (fd : FuncData), mg "History" = some (.ref C) ∧ Cls K C ∧ Meth K C "redo" f ∧ FunD K "redo" "History.redo" (defArgs (mth 28 6)) (defBody (mth 28 6)) (defScope (mth 28 6)) [] [] f fd
  f_History_back_to : ∃ (C f : Addr) (fd : FuncData), mg "History" = some (.ref C) ∧ Cls K C ∧ Meth K C "back_to" f ∧ FunD K "back_to" "History.back_to" (defArgs (mth 28 7)) (defBody (mth 28 7)) (defScope (mth 28 7)) [] [] f fd
  isF_Unlike : ∀ C, mg "Unlike" = some (.ref C) → IsF K C
  is_Unlike_Unlike : ∀ C, mg "Unlike" = some (.ref C) → PySem.W.kitOne K (.ref C) (.ref C) = some true
  is_Unlike_str : ∀ C, mg "Unlike" = some (.ref C) → PySem.W.kitOne K (.ref C) (.type "str") = some false
  is_int_Unlike : ∀ C, mg "Unlike" = some (.ref C) → PySem.W.kitOne K (.type "int") (.ref C) = some false
  is_non_Unlike : ∀ C, mg "Unlike" = some (.ref C) → PySem.W.kitOne K (.type "NoneType") (.ref C) = some false
  is_str_Unlike : ∀ C, mg "Unlike" = some (.ref C) → PySem.W.kitOne K (.type "str") (.ref C) = some false
  m_ValueError : mg "ValueError" = none
  m_bool : mg "bool" = none
  m_int : mg "int" = none
  m_isinstance : mg "isinstance" = none
  m_len : mg "len" = none
  m_min : mg "min" = none
  m_property : mg "property" = none
  m_range : mg "range" = none
  m_set : mg "set" = none
  m_str : mg "str" = none
  m_super : mg "super" = none
  m_tuple : mg "tuple" = none
end My
end
section
set_option maxHeartbeats 4000000
set_option synthInstance.maxSize 2000
namespace My
open PySem PySem.Spec PyProof.Rows L2 L3
section
variable {P : Program} {w : World} {K : PySem.W.Frag} {mg : Str → Option Value} {base : Heap}
theorem sc_checked_names : FnScope ["names", "seen", "name"] ["names"] (defScope (top 30)) := ⟨rfl, rfl, rfl, by decide +kernel, rfl, by decide +kernel, by decide +kernel⟩
theorem ok_checked_names {f : Addr} {fd : FuncData} (C : Ev P K mg) (FD : FnP K "checked_names" (top 30) f fd)   : FnOk P w K mg base CX0 1 f fd ["names"] (Sp_F_f (pL pStr) M_checked_names (pTN pStr)) := by
  have m_tuple := C.m_tuple
  refine fn_F_f FD sc_checked_names rfl fun cdv A outer s H E hr  a1 => ?_
  exact s_is (s_T (T := if (!(!a1.isEmpty)) = true then none else (some ([] : List Str)).bind fun x2 => (forL a1 (x2 : (List Str)) fun x8 s7 => if (decide (x8 ∈ s7)) = true then inB (none) else grd (s7.length < sizeLine) (some (Bo.nx (s7 ++ [x8])))).bind (boK (fun s9 => some s9) id)) (s_ifT (ins_F _) (t_kd (c := fun (b_ : Unit) => (!(!a1.isEmpty))) (t_not (t_kd (c := fun (b_ : Unit) => (!a1.isEmpty)) (t_truL (x_var (p := (pL pStr) a1) 0))))) (fun (b1 : Unit) => s_T (T := none) (s_never)) fun (b1 : Unit) => s_T (T := (some ([] : List Str)).bind fun x2 => (forL a1 (x2 : (List Str)) fun x8 s7 => if (decide (x8 ∈ s7)) = true then inB (none) else grd (s7.length < sizeLine) (some (Bo.nx (s7 ++ [x8])))).bind (boK (fun s9 => some s9) id)) (s_letO (i := 1) (oL pStr) sc_checked_names.nd (o_kd (E := fun (b_ : Unit) => (oL pStr) ([])) (x_nil pStr)) fun (b3 : Unit) x2 v5 => s_T (T := (forL a1 (x2 : (List Str)) fun x8 s7 => if (decide (x8 ∈ s7)) = true then inB (none) else grd (s7.length < sizeLine) (some (Bo.nx (s7 ++ [x8])))).bind (boK (fun s9 => some s9) id)) (s_for PassesOwn.never (fun (b_ : Unit) (s_ : (List Str)) => ([some ((pL pStr) a1), some (pV v5), none], [⟨v5, (oL pStr) s_, none⟩])) (fun (b_ : Unit) => x2) (ι := id) (R := (RF ⟨H, []⟩ (fun _ => []) (pTN pStr))) (i_list (x_var (p := (pL pStr) a1) 0)) (pg_name (i := 2) sc_checked_names.nd rfl (by first | exact .inl rfl | exact .inr rfl)) (tg_name 2) (fun _ => (by exact ⟨rfl, rfl, trivial⟩)) (fun _ => List.Sublist.refl _) (fun b6 x8 s7 => s_T (T := if (decide (x8 ∈ s7)) = true then inB (none) else grd (s7.length < sizeLine) (some (Bo.nx (s7 ++ [x8])))) (s_ifB ins_T (t_kd (c := fun (b_ : (Unit × Unit)) => (decide (x8 ∈ s7))) (t_inL flStr (x_var (p := pStr x8) 2) (fun _ => x_var (p := pV v5) 1) (fun _ _ => rdO 0))) (fun (b10 : (Unit × Unit)) => s_T (T := none) (s_never)) fun (b10 : (Unit × Unit)) => s_T (T := grd (s7.length < sizeLine) (some (Bo.nx (s7 ++ [x8])))) (s_expr (x_app 0 (x_var (p := pV v5) 1) (fun _ => x_var (p := pStr x8) 2) (fun _ => rfl) (fun _ _ => rfl)) fun (b11 : (Unit × Unit)) => s_endB (s7 ++ [x8]) (by exact ⟨rfl, rfl, trivial⟩) (List.Sublist.refl _)))) (fun b6 s9 => s_frz (i := 1) (c := ⟨v5, (oL pStr) s9, none⟩) 0 (s_T (T := some s9) (s_ret (P := (fun _ => [])) (Rp := (pTN pStr)) (ι := id) (rv := fun (b : Unit) => s9) (fun _ _ _ h => by exact h) (x_kd (E := fun (b_ : Unit) => (pTN pStr) s9) (x_tupN (Ee := pStr) m_tuple (x_var (p := (pL pStr) s9) 1) (fun _ => rdF))) (fun _ => List.Sublist.refl _)))) (fun _ _ _ h => by exact h))))) (by unfold M_checked_names; rfl)
end
end My
end
section
set_option maxHeartbeats 4000000
set_option synthInstance.maxSize 2000
namespace My
open PySem PySem.Spec PyProof.Rows L2 L3
section
variable {P : Program} {w : World} {K : PySem.W.Frag} {mg : Str → Option Value} {base : Heap}
theorem sc_l_is_integer : FnScope ["_law_actual"] ["_law_actual"] (defScope (top 34)) := ⟨rfl, rfl, rfl, by decide +kernel, rfl, by decide +kernel, by decide +kernel⟩
theorem ok_l_is_integer {f : Addr} {fd : FuncData} (C : Ev P K mg) (FD : FnP K "_law_is_integer" (top 34) f fd)   : FnOk P w K mg base CX0 1 f fd ["_law_actual"] (Sp_F_f pInt M_l_is_integer pBl) := by
  have m_bool := C.m_bool
  have m_int := C.m_int
  have m_isinstance := C.m_isinstance
  refine fn_F_f FD sc_l_is_integer rfl fun cdv A outer s H E hr  a1 => ?_
  exact s_is (s_T (T := some (true && (!false))) (s_ret (P := (fun _ => [])) (Rp := pBl) (ι := id) (rv := fun (b : Unit) => (true && (!false))) (fun _ _ _ h => by exact h) (x_kd (E := fun (b_ : Unit) => pBl (true && (!false))) (v_and (x_totV (pBl true) () (fun _ => rfl) (by exact (x_kd (E := fun (b_ : Unit) => pBl true) (x_isi (cn := "int") (fun _ => "int") (fun _ => true) m_isinstance m_int (y_var (p := pInt a1) 0) (fun _ => tyInt) (fun _ => by decide +kernel) (by decide +kernel))))) (v_one (x_totV (pBl (!false)) () (fun _ => rfl) (by exact (x_kd (E := fun (b_ : Unit) => pBl (!false)) (x_not (x_kd (E := fun (b_ : Unit) => pBl false) (x_isi (cn := "bool") (fun _ => "int") (fun _ => false) m_isinstance m_bool (y_var (p := pInt a1) 0) (fun _ => tyInt) (fun _ => by decide +kernel) (by decide +kernel)))))))))) (fun _ => List.Sublist.refl _))) (by unfold M_l_is_integer; rfl)
theorem okq_l_is_integer {f : Addr} {fd : FuncData} (C : Ev P K mg) (FD : FnP K "_law_is_integer" (top 34) f fd)   : FnQ P w K mg base CX0 1 f fd ["_law_actual"] (SpQ1 pInt M_l_is_integer pBl) := by
  have m_bool := C.m_bool
  have m_int := C.m_int
  have m_isinstance := C.m_isinstance
  refine fn_Q1 FD sc_l_is_integer rfl fun cdv A outer s H E p hr a1 => ?_
  exact s_is (s_T (T := some (true && (!false))) (s_ret (P := (fun _ => [])) (Rp := pBl) (ι := id) (rv := fun (b : Unit) => (true && (!false))) (fun _ _ _ h => by exact h) (x_kd (E := fun (b_ : Unit) => pBl (true && (!false))) (v_and (x_totV (pBl true) () (fun _ => rfl) (by exact (x_kd (E := fun (b_ : Unit) => pBl true) (x_isi (cn := "int") (fun _ => "int") (fun _ => true) m_isinstance m_int (y_var (p := pInt a1) 0) (fun _ => tyInt) (fun _ => by decide +kernel) (by decide +kernel))))) (v_one (x_totV (pBl (!false)) () (fun _ => rfl) (by exact (x_kd (E := fun (b_ : Unit) => pBl (!false)) (x_not (x_kd (E := fun (b_ : Unit) => pBl false) (x_isi (cn := "bool") (fun _ => "int") (fun _ => false) m_isinstance m_bool (y_var (p := pInt a1) 0) (fun _ => tyInt) (fun _ => by decide +kernel) (by decide +kernel)))))))))) (fun _ => List.Sublist.refl _))) (by unfold M_l_is_integer; rfl)
end
end My
end
section
set_option maxHeartbeats 4000000
set_option synthInstance.maxSize 2000
namespace My
open PySem PySem.Spec PyProof.Rows L2 L3
section
variable {P : Program} {w : World} {K : PySem.W.Frag} {mg : Str → Option Value} {base : Heap}
theorem sc_l_stream : FnScope ["_law_script", "_law_k", "_law_cell"] ["_law_script", "_law_k"] (defScope (top 35)) := ⟨rfl, rfl, rfl, by decide +kernel, rfl, by decide +kernel, by decide +kernel⟩
theorem ok_l_stream {f : Addr} {fd : FuncData} (C : Ev P K mg) (FD : FnP K "_law_stream" (top 35) f fd)   : FnOk P w K mg base CX0 1 f fd ["_law_script", "_law_k"] (Sp_FF_o (pS K) pInt M_l_stream (oL pInt)) := by
  have m_int := C.m_int
  have m_len := C.m_len
  refine fn_FF_o FD sc_l_stream rfl fun cdv A outer s H E hr  a1 a2 => ?_
  exact s_is (s_T (T := (some ((0 : Int) : Int)).bind fun x12 => (if (decide (a2 < (a1.length : Int))) = true then (atI a1 a2).bind fun x16 => (some (x16 : Int)).bind fun x17 => some x17 else some x12).bind fun s15 => grd ((sm s15 || sm (if (decide (((10 : Int) ^ (18 : Int).toNat) ≤ s15)) then 1 else 0 : Int)) = true) (some ([(s15 * (if (decide (((10 : Int) ^ (18 : Int).toNat) ≤ s15)) then 1 else 0 : Int)), (0 : Int), s15]))) (s_let (i := 2) pInt sc_l_stream.nd (x_int (i := 0)) fun (b13 : Unit) x12 => s_T (T := (if (decide (a2 < (a1.length : Int))) = true then (atI a1 a2).bind fun x16 => (some (x16 : Int)).bind fun x17 => some x17 else some x12).bind fun s15 => grd ((sm s15 || sm (if (decide (((10 : Int) ^ (18 : Int).toNat) ≤ s15)) then 1 else 0 : Int)) = true) (some ([(s15 * (if (decide (((10 : Int) ^ (18 : Int).toNat) ≤ s15)) then 1 else 0 : Int)), (0 : Int), s15]))) (s_ifN (C := fun s_ : Int => ([some ((pS K) a1), some (pInt a2), some (pInt s_)], [])) (t_kd (c := fun (b_ : (Unit × Unit)) => (decide (a2 < (a1.length : Int)))) (t_lt (x_var (p := pInt a2) 1) (fun _ => x_kd (E := fun (b_ : Unit) => pInt (a1.length : Int)) (x_lenS m_len (x_var (p := (pS K) a1) 0))))) (fun (b14 : (Unit × Unit)) => s_T (T := (atI a1 a2).bind fun x16 => (some (x16 : Int)).bind fun x17 => some x17) (s_let (i := 2) pInt sc_l_stream.nd (x_kd (E := fun (b_ : ((Unit × Unit) × Int)) => pInt b_.2) (x_ixS (x_var (p := (pS K) a1) 0) (fun _ => x_var (p := pInt a2) 1))) fun (b18 : ((Unit × Unit) × Int)) x17 => s_end x17 rfl (by exact ⟨rfl, rfl, rfl, trivial⟩) (List.Sublist.refl _))) (fun (b14 : (Unit × Unit)) => s_end x12 rfl (by exact ⟨rfl, rfl, rfl, trivial⟩) (List.Sublist.refl _)) fun (b14 : (Unit × Unit)) s15 => s_T (T := grd ((sm s15 || sm (if (decide (((10 : Int) ^ (18 : Int).toNat) ≤ s15)) then 1 else 0 : Int)) = true) (some ([(s15 * (if (decide (((10 : Int) ^ (18 : Int).toNat) ≤ s15)) then 1 else 0 : Int)), (0 : Int), s15]))) (s_retO (P := (fun _ => [])) (Ro := (oL pInt)) (ι := id) (rv := fun (b : ((Unit × (Unit × (Unit × Unit))) × (Unit × (Unit × Unit)))) => [(s15 * (if (decide (((10 : Int) ^ (18 : Int).toNat) ≤ s15)) then 1 else 0 : Int)), (0 : Int), s15]) (fun _ _ _ h => by exact h) (o_kd (o_kd (E := fun (b_ : ((Unit × (Unit × (Unit × Unit))) × (Unit × (Unit × Unit)))) => (oL pInt) ([(s15 * (if (decide (((10 : Int) ^ (18 : Int).toNat) ≤ s15)) then 1 else 0 : Int)), (0 : Int), s15])) (x_disp pInt (fun _ => [_, _, _]) (a_cons (x_kd (E := fun (b_ : (Unit × (Unit × (Unit × Unit)))) => pInt (s15 * (if (decide (((10 : Int) ^ (18 : Int).toNat) ≤ s15)) then 1 else 0 : Int))) (x_mul (x_var (p := pInt s15) 2) (fun _ => x_kd (E := fun (b_ : (Unit × (Unit × Unit))) => pInt (if (decide (((10 : Int) ^ (18 : Int).toNat) ≤ s15)) then 1 else 0 : Int)) (x_intB m_int (x_kd (E := fun (b_ : (Unit × (Unit × Unit))) => pBl (decide (((10 : Int) ^ (18 : Int).toNat) ≤ s15))) (x_ge (x_var (p := pInt s15) 2) (fun _ => x_kd (E := fun (b_ : (Unit × Unit)) => pInt ((10 : Int) ^ (18 : Int).toNat)) (x_pow (x_int (i := 10)) (fun _ => x_int (i := 18)) (fun _ _ => by decide))))))))) (fun _ => a_cons (x_int (i := 0)) (fun _ => a_cons (x_var (p := pInt s15) 2) (fun _ => a_nil)))) (fun _ => rfl) (fun _ => by simp)))) (fun _ => List.Sublist.refl _))))) (by unfold M_l_stream; rfl)
end
end My
end
section
set_option maxHeartbeats 4000000
set_option synthInstance.maxSize 2000
namespace My
open PySem PySem.Spec PyProof.Rows L2 L3
section
variable {P : Program} {w : World} {K : PySem.W.Frag} {mg : Str → Option Value} {base : Heap}
theorem sc_l_next : FnScope ["_law_stream_here", "_law_size", "_law_mixed", "_law_digit"] ["_law_stream_here", "_law_size"] (defScope (top 36)) := ⟨rfl, rfl, rfl, by decide +kernel, rfl, by decide +kernel, by decide +kernel⟩
theorem ok_l_next {f : Addr} {fd : FuncData} (C : Ev P K mg) (FD : FnP K "_law_next" (top 36) f fd)   : FnOk P w K mg base CX0 1 f fd ["_law_stream_here", "_law_size"] (Sp_OF_f (oL pInt) pInt M_l_next pInt) := by
  have m_int := C.m_int
  refine fn_OF_f FD sc_l_next rfl fun cdv A outer s H E hr v1 G1 a1 a2 => ?_
  exact s_is (s_T (T := (atI a1 (1 : Int)).bind fun x19 => (ixN a1.length (1 : Int)).bind fun (_ : Nat) => (atI (a1.set ((ixN a1.length (1 : Int)).getD 0) (x19 + (1 : Int))) (0 : Int)).bind fun x21 => if (decide ((0 : Int) < x21)) = true then (atI (a1.set ((ixN a1.length (1 : Int)).getD 0) (x19 + (1 : Int))) (0 : Int)).bind fun x23 => grd (0 < a2) ((some ((x23 % a2) : Int)).bind fun x24 => (atI (a1.set ((ixN a1.length (1 : Int)).getD 0) (x19 + (1 : Int))) (0 : Int)).bind fun x26 => grd (dv a2 = true) ((ixN (a1.set ((ixN a1.length (1 : Int)).getD 0) (x19 + (1 : Int))).length (0 : Int)).bind fun (_ : Nat) => some (x24, ((a1.set ((ixN a1.length (1 : Int)).getD 0) (x19 + (1 : Int))).set ((ixN (a1.set ((ixN a1.length (1 : Int)).getD 0) (x19 + (1 : Int))).length (0 : Int)).getD 0) (x26 / a2))))) else (atI (a1.set ((ixN a1.length (1 : Int)).getD 0) (x19 + (1 : Int))) (2 : Int)).bind fun x28 => (atI (a1.set ((ixN a1.length (1 : Int)).getD 0) (x19 + (1 : Int))) (1 : Int)).bind fun x29 => grd ((sm (7919 : Int) || sm x29) = true) (grd (0 < (2147483647 : Int)) ((some ((((x28 + ((7919 : Int) * x29)) + (13 : Int)) % (2147483647 : Int)) : Int)).bind fun x30 => grd ((sm x30 || sm (x30 + (48271 : Int))) = true) (grd (0 < (2147483629 : Int)) ((some (((x30 * (x30 + (48271 : Int))) % (2147483629 : Int)) : Int)).bind fun x32 => grd ((sm x32 || sm (x32 + (69621 : Int))) = true) ((atI (a1.set ((ixN a1.length (1 : Int)).getD 0) (x19 + (1 : Int))) (1 : Int)).bind fun x34 => grd ((sm (31 : Int) || sm x34) = true) (grd (0 < (2147483647 : Int)) ((some ((((x32 * (x32 + (69621 : Int))) + ((31 : Int) * x34)) % (2147483647 : Int)) : Int)).bind fun x35 => grd (dv (9 : Int) = true) (grd (0 < a2) (some (((x35 / (9 : Int)) % a2), (a1.set ((ixN a1.length (1 : Int)).getD 0) (x19 + (1 : Int)))))))))))))) (s_setL 0 (x_kd (E := fun (b_ : (((Unit × Unit) × Int) × Unit)) => pInt (b_.1.2 + (1 : Int))) (x_add (x_kd (E := fun (b_ : ((Unit × Unit) × Int)) => pInt b_.2) (x_ixL (Ee := pInt) (x_var (p := pV v1) 0) (fun _ => x_int (i := 1)) (fun _ _ => rdO 0))) (fun _ => x_int (i := 1)))) (fun _ => x_var (p := pV v1) 0) (fun _ _ => x_int (i := 1)) (fun _ _ _ => rfl) fun (b20 : (((((Unit × Unit) × Int) × Unit) × Unit) × Unit)) => s_T (T := (atI (a1.set ((ixN a1.length (1 : Int)).getD 0) (b20.1.1.1.2 + (1 : Int))) (0 : Int)).bind fun x21 => if (decide ((0 : Int) < x21)) = true then (atI (a1.set ((ixN a1.length (1 : Int)).getD 0) (b20.1.1.1.2 + (1 : Int))) (0 : Int)).bind fun x23 => grd (0 < a2) ((some ((x23 % a2) : Int)).bind fun x24 => (atI (a1.set ((ixN a1.length (1 : Int)).getD 0) (b20.1.1.1.2 + (1 : Int))) (0 : Int)).bind fun x26 => grd (dv a2 = true) ((ixN (a1.set ((ixN a1.length (1 : Int)).getD 0) (b20.1.1.1.2 + (1 : Int))).length (0 : Int)).bind fun (_ : Nat) => some (x24, ((a1.set ((ixN a1.length (1 : Int)).getD 0) (b20.1.1.1.2 + (1 : Int))).set ((ixN (a1.set ((ixN a1.length (1 : Int)).getD 0) (b20.1.1.1.2 + (1 : Int))).length (0 : Int)).getD 0) (x26 / a2))))) else (atI (a1.set ((ixN a1.length (1 : Int)).getD 0) (b20.1.1.1.2 + (1 : Int))) (2 : Int)).bind fun x28 => (atI (a1.set ((ixN a1.length (1 : Int)).getD 0) (b20.1.1.1.2 + (1 : Int))) (1 : Int)).bind fun x29 => grd ((sm (7919 : Int) || sm x29) = true) (grd (0 < (2147483647 : Int)) ((some ((((x28 + ((7919 : Int) * x29)) + (13 : Int)) % (2147483647 : Int)) : Int)).bind fun x30 => grd ((sm x30 || sm (x30 + (48271 : Int))) = true) (grd (0 < (2147483629 : Int)) ((some (((x30 * (x30 + (48271 : Int))) % (2147483629 : Int)) : Int)).bind fun x32 => grd ((sm x32 || sm (x32 + (69621 : Int))) = true) ((atI (a1.set ((ixN a1.length (1 : Int)).getD 0) (b20.1.1.1.2 + (1 : Int))) (1 : Int)).bind fun x34 => grd ((sm (31 : Int) || sm x34) = true) (grd (0 < (2147483647 : Int)) ((some ((((x32 * (x32 + (69621 : Int))) + ((31 : Int) * x34)) % (2147483647 : Int)) : Int)).bind fun x35 => grd (dv (9 : Int) = true) (grd (0 < a2) (some (((x35 / (9 : Int)) % a2), (a1.set ((ixN a1.length (1 : Int)).getD 0) (b20.1.1.1.2 + (1 : Int)))))))))))))) (s_ifT (ins_F _) (t_kd (c := fun (b_ : (((Unit × Unit) × Int) × Unit)) => (decide ((0 : Int) < b_.1.2))) (t_gt (x_kd (E := fun (b_ : ((Unit × Unit) × Int)) => pInt b_.2) (x_ixL (Ee := pInt) (x_var (p := pV v1) 0) (fun _ => x_int (i := 0)) (fun _ _ => rdO 0))) (fun _ => x_int (i := 0)))) (fun (b22 : (((Unit × Unit) × Int) × Unit)) => s_T (T := (atI (a1.set ((ixN a1.length (1 : Int)).getD 0) (b20.1.1.1.2 + (1 : Int))) (0 : Int)).bind fun x23 => grd (0 < a2) ((some ((x23 % a2) : Int)).bind fun x24 => (atI (a1.set ((ixN a1.length (1 : Int)).getD 0) (b20.1.1.1.2 + (1 : Int))) (0 : Int)).bind fun x26 => grd (dv a2 = true) ((ixN (a1.set ((ixN a1.length (1 : Int)).getD 0) (b20.1.1.1.2 + (1 : Int))).length (0 : Int)).bind fun (_ : Nat) => some (x24, ((a1.set ((ixN a1.length (1 : Int)).getD 0) (b20.1.1.1.2 + (1 : Int))).set ((ixN (a1.set ((ixN a1.length (1 : Int)).getD 0) (b20.1.1.1.2 + (1 : Int))).length (0 : Int)).getD 0) (x26 / a2)))))) (s_let (i := 3) pInt sc_l_next.nd (x_kd (E := fun (b_ : (((Unit × Unit) × Int) × Unit)) => pInt (b_.1.2 % a2)) (x_mod (x_kd (E := fun (b_ : ((Unit × Unit) × Int)) => pInt b_.2) (x_intI m_int (x_kd (E := fun (b_ : ((Unit × Unit) × Int)) => pInt b_.2) (x_ixL (Ee := pInt) (x_var (p := pV v1) 0) (fun _ => x_int (i := 0)) (fun _ _ => rdO 0))))) (fun _ => x_var (p := pInt a2) 1))) fun (b25 : (((Unit × Unit) × Int) × Unit)) x24 => s_T (T := (atI (a1.set ((ixN a1.length (1 : Int)).getD 0) (b20.1.1.1.2 + (1 : Int))) (0 : Int)).bind fun x26 => grd (dv a2 = true) ((ixN (a1.set ((ixN a1.length (1 : Int)).getD 0) (b20.1.1.1.2 + (1 : Int))).length (0 : Int)).bind fun (_ : Nat) => some (x24, ((a1.set ((ixN a1.length (1 : Int)).getD 0) (b20.1.1.1.2 + (1 : Int))).set ((ixN (a1.set ((ixN a1.length (1 : Int)).getD 0) (b20.1.1.1.2 + (1 : Int))).length (0 : Int)).getD 0) (x26 / a2))))) (s_setL 0 (x_kd (E := fun (b_ : (((Unit × Unit) × Int) × Unit)) => pInt (b_.1.2 / a2)) (x_fdiv (x_kd (E := fun (b_ : ((Unit × Unit) × Int)) => pInt b_.2) (x_ixL (Ee := pInt) (x_var (p := pV v1) 0) (fun _ => x_int (i := 0)) (fun _ _ => rdO 0))) (fun _ => x_var (p := pInt a2) 1))) (fun _ => x_var (p := pV v1) 0) (fun _ _ => x_int (i := 0)) (fun _ _ _ => rfl) fun (b27 : (((((Unit × Unit) × Int) × Unit) × Unit) × Unit)) => s_T (T := some (x24, ((a1.set ((ixN a1.length (1 : Int)).getD 0) (b20.1.1.1.2 + (1 : Int))).set ((ixN (a1.set ((ixN a1.length (1 : Int)).getD 0) (b20.1.1.1.2 + (1 : Int))).length (0 : Int)).getD 0) (b27.1.1.1.2 / a2)))) (s_ret (P := (fun (r : Int × (List Int)) => [⟨v1, (oL pInt) r.2, some 0⟩])) (Rp := (fun (r : Int × (List Int)) => pInt r.1)) (ι := id) (rv := fun (b : Unit) => (x24, ((a1.set ((ixN a1.length (1 : Int)).getD 0) (b20.1.1.1.2 + (1 : Int))).set ((ixN (a1.set ((ixN a1.length (1 : Int)).getD 0) (b20.1.1.1.2 + (1 : Int))).length (0 : Int)).getD 0) (b27.1.1.1.2 / a2)))) (fun _ _ _ h => by exact h) (x_var (p := pInt x24) 3) (fun _ => List.Sublist.refl _))))) fun (b22 : (((Unit × Unit) × Int) × Unit)) => s_T (T := (atI (a1.set ((ixN a1.length (1 : Int)).getD 0) (b20.1.1.1.2 + (1 : Int))) (2 : Int)).bind fun x28 => (atI (a1.set ((ixN a1.length (1 : Int)).getD 0) (b20.1.1.1.2 + (1 : Int))) (1 : Int)).bind fun x29 => grd ((sm (7919 : Int) || sm x29) = true) (grd (0 < (2147483647 : Int)) ((some ((((x28 + ((7919 : Int) * x29)) + (13 : Int)) % (2147483647 : Int)) : Int)).bind fun x30 => grd ((sm x30 || sm (x30 + (48271 : Int))) = true) (grd (0 < (2147483629 : Int)) ((some (((x30 * (x30 + (48271 : Int))) % (2147483629 : Int)) : Int)).bind fun x32 => grd ((sm x32 || sm (x32 + (69621 : Int))) = true) ((atI (a1.set ((ixN a1.length (1 : Int)).getD 0) (b20.1.1.1.2 + (1 : Int))) (1 : Int)).bind fun x34 => grd ((sm (31 : Int) || sm x34) = true) (grd (0 < (2147483647 : Int)) ((some ((((x32 * (x32 + (69621 : Int))) + ((31 : Int) * x34)) % (2147483647 : Int)) : Int)).bind fun x35 => grd (dv (9 : Int) = true) (grd (0 < a2) (some (((x35 / (9 : Int)) % a2), (a1.set ((ixN a1.length (1 : Int)).getD 0) (b20.1.1.1.2 + (1 : Int)))))))))))))) (s_let (i := 2) pInt sc_l_next.nd (x_kd (E := fun (b_ : (((((Unit × Unit) × Int) × (Unit × ((Unit × Unit) × Int))) × Unit) × Unit)) => pInt (((b_.1.1.1.2 + ((7919 : Int) * b_.1.1.2.2.2)) + (13 : Int)) % (2147483647 : Int))) (x_mod (x_kd (E := fun (b_ : ((((Unit × Unit) × Int) × (Unit × ((Unit × Unit) × Int))) × Unit)) => pInt ((b_.1.1.2 + ((7919 : Int) * b_.1.2.2.2)) + (13 : Int))) (x_intI m_int (x_kd (E := fun (b_ : ((((Unit × Unit) × Int) × (Unit × ((Unit × Unit) × Int))) × Unit)) => pInt ((b_.1.1.2 + ((7919 : Int) * b_.1.2.2.2)) + (13 : Int))) (x_add (x_kd (E := fun (b_ : (((Unit × Unit) × Int) × (Unit × ((Unit × Unit) × Int)))) => pInt (b_.1.2 + ((7919 : Int) * b_.2.2.2))) (x_add (x_kd (E := fun (b_ : ((Unit × Unit) × Int)) => pInt b_.2) (x_ixL (Ee := pInt) (x_var (p := pV v1) 0) (fun _ => x_int (i := 2)) (fun _ _ => rdO 0))) (fun _ => x_kd (E := fun (b_ : (Unit × ((Unit × Unit) × Int))) => pInt ((7919 : Int) * b_.2.2)) (x_mul (x_int (i := 7919)) (fun _ => x_kd (E := fun (b_ : ((Unit × Unit) × Int)) => pInt b_.2) (x_ixL (Ee := pInt) (x_var (p := pV v1) 0) (fun _ => x_int (i := 1)) (fun _ _ => rdO 0))))))) (fun _ => x_int (i := 13)))))) (fun _ => x_int (i := 2147483647)))) fun (b31 : (((((Unit × Unit) × Int) × (Unit × ((Unit × Unit) × Int))) × Unit) × Unit)) x30 => s_T (T := grd ((sm x30 || sm (x30 + (48271 : Int))) = true) (grd (0 < (2147483629 : Int)) ((some (((x30 * (x30 + (48271 : Int))) % (2147483629 : Int)) : Int)).bind fun x32 => grd ((sm x32 || sm (x32 + (69621 : Int))) = true) ((atI (a1.set ((ixN a1.length (1 : Int)).getD 0) (b20.1.1.1.2 + (1 : Int))) (1 : Int)).bind fun x34 => grd ((sm (31 : Int) || sm x34) = true) (grd (0 < (2147483647 : Int)) ((some ((((x32 * (x32 + (69621 : Int))) + ((31 : Int) * x34)) % (2147483647 : Int)) : Int)).bind fun x35 => grd (dv (9 : Int) = true) (grd (0 < a2) (some (((x35 / (9 : Int)) % a2), (a1.set ((ixN a1.length (1 : Int)).getD 0) (b20.1.1.1.2 + (1 : Int)))))))))))) (s_let (i := 2) pInt sc_l_next.nd (x_kd (E := fun (b_ : ((Unit × (Unit × Unit)) × Unit)) => pInt ((x30 * (x30 + (48271 : Int))) % (2147483629 : Int))) (x_mod (x_kd (E := fun (b_ : (Unit × (Unit × Unit))) => pInt (x30 * (x30 + (48271 : Int)))) (x_intI m_int (x_kd (E := fun (b_ : (Unit × (Unit × Unit))) => pInt (x30 * (x30 + (48271 : Int)))) (x_mul (x_var (p := pInt x30) 2) (fun _ => x_kd (E := fun (b_ : (Unit × Unit)) => pInt (x30 + (48271 : Int))) (x_add (x_var (p := pInt x30) 2) (fun _ => x_int (i := 48271)))))))) (fun _ => x_int (i := 2147483629)))) fun (b33 : ((Unit × (Unit × Unit)) × Unit)) x32 => s_T (T := grd ((sm x32 || sm (x32 + (69621 : Int))) = true) ((atI (a1.set ((ixN a1.length (1 : Int)).getD 0) (b20.1.1.1.2 + (1 : Int))) (1 : Int)).bind fun x34 => grd ((sm (31 : Int) || sm x34) = true) (grd (0 < (2147483647 : Int)) ((some ((((x32 * (x32 + (69621 : Int))) + ((31 : Int) * x34)) % (2147483647 : Int)) : Int)).bind fun x35 => grd (dv (9 : Int) = true) (grd (0 < a2) (some (((x35 / (9 : Int)) % a2), (a1.set ((ixN a1.length (1 : Int)).getD 0) (b20.1.1.1.2 + (1 : Int)))))))))) (s_let (i := 2) pInt sc_l_next.nd (x_kd (E := fun (b_ : (((Unit × (Unit × Unit)) × (Unit × ((Unit × Unit) × Int))) × Unit)) => pInt (((x32 * (x32 + (69621 : Int))) + ((31 : Int) * b_.1.2.2.2)) % (2147483647 : Int))) (x_mod (x_kd (E := fun (b_ : ((Unit × (Unit × Unit)) × (Unit × ((Unit × Unit) × Int)))) => pInt ((x32 * (x32 + (69621 : Int))) + ((31 : Int) * b_.2.2.2))) (x_intI m_int (x_kd (E := fun (b_ : ((Unit × (Unit × Unit)) × (Unit × ((Unit × Unit) × Int)))) => pInt ((x32 * (x32 + (69621 : Int))) + ((31 : Int) * b_.2.2.2))) (x_add (x_kd (E := fun (b_ : (Unit × (Unit × Unit))) => pInt (x32 * (x32 + (69621 : Int)))) (x_mul (x_var (p := pInt x32) 2) (fun _ => x_kd (E := fun (b_ : (Unit × Unit)) => pInt (x32 + (69621 : Int))) (x_add (x_var (p := pInt x32) 2) (fun _ => x_int (i := 69621)))))) (fun _ => x_kd (E := fun (b_ : (Unit × ((Unit × Unit) × Int))) => pInt ((31 : Int) * b_.2.2)) (x_mul (x_int (i := 31)) (fun _ => x_kd (E := fun (b_ : ((Unit × Unit) × Int)) => pInt b_.2) (x_ixL (Ee := pInt) (x_var (p := pV v1) 0) (fun _ => x_int (i := 1)) (fun _ _ => rdO 0))))))))) (fun _ => x_int (i := 2147483647)))) fun (b36 : (((Unit × (Unit × Unit)) × (Unit × ((Unit × Unit) × Int))) × Unit)) x35 => s_T (T := grd (dv (9 : Int) = true) (grd (0 < a2) (some (((x35 / (9 : Int)) % a2), (a1.set ((ixN a1.length (1 : Int)).getD 0) (b20.1.1.1.2 + (1 : Int))))))) (s_ret (P := (fun (r : Int × (List Int)) => [⟨v1, (oL pInt) r.2, some 0⟩])) (Rp := (fun (r : Int × (List Int)) => pInt r.1)) (ι := id) (rv := fun (b : ((Unit × Unit) × Unit)) => (((x35 / (9 : Int)) % a2), (a1.set ((ixN a1.length (1 : Int)).getD 0) (b20.1.1.1.2 + (1 : Int))))) (fun _ _ _ h => by exact h) (x_kd (x_kd (E := fun (b_ : ((Unit × Unit) × Unit)) => pInt ((x35 / (9 : Int)) % a2)) (x_mod (x_kd (E := fun (b_ : (Unit × Unit)) => pInt (x35 / (9 : Int))) (x_intI m_int (x_kd (E := fun (b_ : (Unit × Unit)) => pInt (x35 / (9 : Int))) (x_fdiv (x_var (p := pInt x35) 2) (fun _ => x_int (i := 9)))))) (fun _ => x_var (p := pInt a2) 1)))) (fun _ => List.Sublist.refl _)))))))) (by unfold M_l_next; rfl)
end
end My
end
section
set_option maxHeartbeats 4000000
set_option synthInstance.maxSize 2000
namespace My
open PySem PySem.Spec PyProof.Rows L2 L3
section
variable {P : Program} {w : World} {K : PySem.W.Frag} {mg : Str → Option Value} {base : Heap}
theorem sc_l_same_state : FnScope ["_law_actual", "_law_due"] ["_law_actual", "_law_due"] (defScope (top 38)) := ⟨rfl, rfl, rfl, by decide +kernel, rfl, by decide +kernel, by decide +kernel⟩
theorem ok_l_same_state {f : Addr} {fd : FuncData} (C : Ev P K mg) (FD : FnP K "_law_same_state" (top 38) f fd)   : FnOk P w K mg base CX0 2 f fd ["_law_actual", "_law_due"] (Sp_FF_f (pOp (pSm pInt (pSm pStr (I_Unlike mg)))) (pSm pInt (pSm pStr (I_Unlike mg))) M_l_same_state pBl) := by
  obtain ⟨C_Unlike, fI_Unlike, fdI_Unlike, gC_Unlike, hC_Unlike, hK_Unlike, FI_Unlike, n_Unlike_names⟩ := C.c_Unlike
  have m_isinstance := C.m_isinstance
  have m_str := C.m_str
  obtain ⟨f_l_is_integer, fd_l_is_integer, F_l_is_integer, g_l_is_integer⟩ := C.f_l_is_integer
  have k_l_is_integer := ok_l_is_integer (P := P) (w := w) (base := base) C F_l_is_integer
  have b_l_is_integer : Binds K fd_l_is_integer ["_law_actual"] [] := F_l_is_integer.bindsN fun _ _ _ _ _ _ us hl => match us, hl with | [_], _ => rfl
  refine fn_FF_f FD sc_l_same_state rfl fun cdv A outer s H E hr  a1 a2 => ?_
  exact s_is (s_T (T := if ((Sum.elim (fun (_ : Int) => false) (Sum.elim (fun (_ : Str) => false) (fun (_ : List Str) => true))) a2) = true then ((if ((fun (o_ : Option (Int ⊕ (Str ⊕ (List Str)))) => o_.elim false (Sum.elim (fun (_ : Int) => false) (Sum.elim (fun (_ : Str) => false) (fun (_ : List Str) => true)))) a1) = true then (a1).bind fun u48 => (smR u48).bind fun u49 => (smR u49).bind fun u50 => (smR a2).bind fun u51 => (smR u51).bind fun u52 => grd (okG (dgTN dgStr) u50 u52 = true) (some ((decide (u50 = u52)), ())) else some (false, ()))).bind fun c53 => some (c53.1) else if ((Sum.elim (fun (_ : Int) => false) (Sum.elim (fun (_ : Str) => true) (fun (_ : List Str) => false))) a2) = true then ((if ((fun (o_ : Option (Int ⊕ (Str ⊕ (List Str)))) => o_.elim false (Sum.elim (fun (_ : Int) => false) (Sum.elim (fun (_ : Str) => true) (fun (_ : List Str) => false)))) a1) = true then (a1).bind fun u61 => (smR u61).bind fun u62 => (smL u62).bind fun u63 => (smR a2).bind fun u64 => (smL u64).bind fun u65 => some ((decide (u63 = u65)), ()) else some (false, ()))).bind fun c66 => some (c66.1) else (a1).bind fun u67 => (smL u67).bind fun u68 => (M_l_is_integer u68).bind fun r69 => ((if r69 = true then (a1).bind fun u74 => (smL u74).bind fun u75 => (smL a2).bind fun u76 => some ((decide (u75 = u76)), ()) else some (false, ()))).bind fun c77 => some (c77.1)) (s_ifT (ins_F _) (t_kd (c := fun (b_ : Unit) => ((Sum.elim (fun (_ : Int) => false) (Sum.elim (fun (_ : Str) => false) (fun (_ : List Str) => true))) a2)) (t_val (x_kd (E := fun (b_ : Unit) => pBl ((Sum.elim (fun (_ : Int) => false) (Sum.elim (fun (_ : Str) => false) (fun (_ : List Str) => true))) a2)) (x_isV (r := fun (b_ : Unit) => (Sum.elim (fun (_ : Int) => false) (Sum.elim (fun (_ : Str) => false) (fun (_ : List Str) => true))) a2) m_isinstance (.inl gC_Unlike) (.own C_Unlike) (x_var (p := (pSm pInt (pSm pStr (I_Unlike mg))) a2) 1) (fun _ => tvS (fun _ => tvB tyInt (C.is_int_Unlike _ gC_Unlike)) (fun _ => tvS (fun _ => tvB tyStr (C.is_str_Unlike _ gC_Unlike)) (fun _ => tvI gC_Unlike hC_Unlike (C.isF_Unlike _ gC_Unlike) (C.is_Unlike_Unlike _ gC_Unlike)))))))) (fun (b41 : Unit) => s_T (T := ((if ((fun (o_ : Option (Int ⊕ (Str ⊕ (List Str)))) => o_.elim false (Sum.elim (fun (_ : Int) => false) (Sum.elim (fun (_ : Str) => false) (fun (_ : List Str) => true)))) a1) = true then (a1).bind fun u48 => (smR u48).bind fun u49 => (smR u49).bind fun u50 => (smR a2).bind fun u51 => (smR u51).bind fun u52 => grd (okG (dgTN dgStr) u50 u52 = true) (some ((decide (u50 = u52)), ())) else some (false, ()))).bind fun c53 => some (c53.1)) (s_ret (P := (fun _ => [])) (Rp := pBl) (ι := id) (rv := fun (b : (Unit × (Bool × Unit))) => b.2.1) (fun _ _ _ h => by exact h) (x_kd (x_kd (E := fun (b_ : (Unit × (Bool × Unit))) => pBl b_.2.1) (v_andM (ΔS := fun (b_ : Unit) (s_ : Unit) => []) (s1 := fun (b_ : Unit) => ()) (s2 := fun (b_ : Unit) (c_ : ((((Unit × (Int ⊕ (Str ⊕ (List Str)))) × (Str ⊕ (List Str))) × (List Str)) × ((Unit × (Str ⊕ (List Str))) × (List Str)))) => ()) (x_kd (E := fun (b_ : Unit) => pBl ((fun (o_ : Option (Int ⊕ (Str ⊕ (List Str)))) => o_.elim false (Sum.elim (fun (_ : Int) => false) (Sum.elim (fun (_ : Str) => false) (fun (_ : List Str) => true)))) a1)) (x_isV (r := fun (b_ : Unit) => (fun (o_ : Option (Int ⊕ (Str ⊕ (List Str)))) => o_.elim false (Sum.elim (fun (_ : Int) => false) (Sum.elim (fun (_ : Str) => false) (fun (_ : List Str) => true)))) a1) m_isinstance (.inl gC_Unlike) (.own C_Unlike) (x_var (p := (pOp (pSm pInt (pSm pStr (I_Unlike mg)))) a1) 0) (fun _ => tvO (C.is_non_Unlike _ gC_Unlike) (fun _ => tvS (fun _ => tvB tyInt (C.is_int_Unlike _ gC_Unlike)) (fun _ => tvS (fun _ => tvB tyStr (C.is_str_Unlike _ gC_Unlike)) (fun _ => tvI gC_Unlike hC_Unlike (C.isF_Unlike _ gC_Unlike) (C.is_Unlike_Unlike _ gC_Unlike))))))) (fun (b47 : Unit) => v_one (x_kd (E := fun (b_ : ((((Unit × (Int ⊕ (Str ⊕ (List Str)))) × (Str ⊕ (List Str))) × (List Str)) × ((Unit × (Str ⊕ (List Str))) × (List Str)))) => pBl (decide (b_.1.2 = b_.2.2))) (x_eqG (dgTN dgStr) hr.units (x_kd (E := fun (b_ : (((Unit × (Int ⊕ (Str ⊕ (List Str)))) × (Str ⊕ (List Str))) × (List Str))) => (pTN pStr) b_.2) (x_fld (cn := "Unlike") (f := "names") (pTN pStr) 0 gC_Unlike hC_Unlike n_Unlike_names (by decide +kernel) (x_inr (E := pStr) (G := (I_Unlike mg)) (x_inr (E := pInt) (G := (pSm pStr (I_Unlike mg))) (x_some (Ee := (pSm pInt (pSm pStr (I_Unlike mg)))) (x_var (p := (pOp (pSm pInt (pSm pStr (I_Unlike mg)))) a1) 0)))))) (fun _ => x_kd (E := fun (b_ : ((Unit × (Str ⊕ (List Str))) × (List Str))) => (pTN pStr) b_.2) (x_fld (cn := "Unlike") (f := "names") (pTN pStr) 0 gC_Unlike hC_Unlike n_Unlike_names (by decide +kernel) (x_inr (E := pStr) (G := (I_Unlike mg)) (x_inr (E := pInt) (G := (pSm pStr (I_Unlike mg))) (x_var (p := (pSm pInt (pSm pStr (I_Unlike mg))) a2) 1)))))))) (fun _ => rfl) (fun _ _ => rfl)))) (fun _ => List.Sublist.refl _))) fun (b41 : Unit) => s_T (T := if ((Sum.elim (fun (_ : Int) => false) (Sum.elim (fun (_ : Str) => true) (fun (_ : List Str) => false))) a2) = true then ((if ((fun (o_ : Option (Int ⊕ (Str ⊕ (List Str)))) => o_.elim false (Sum.elim (fun (_ : Int) => false) (Sum.elim (fun (_ : Str) => true) (fun (_ : List Str) => false)))) a1) = true then (a1).bind fun u61 => (smR u61).bind fun u62 => (smL u62).bind fun u63 => (smR a2).bind fun u64 => (smL u64).bind fun u65 => some ((decide (u63 = u65)), ()) else some (false, ()))).bind fun c66 => some (c66.1) else (a1).bind fun u67 => (smL u67).bind fun u68 => (M_l_is_integer u68).bind fun r69 => ((if r69 = true then (a1).bind fun u74 => (smL u74).bind fun u75 => (smL a2).bind fun u76 => some ((decide (u75 = u76)), ()) else some (false, ()))).bind fun c77 => some (c77.1)) (s_ifT (ins_F _) (t_kd (c := fun (b_ : Unit) => ((Sum.elim (fun (_ : Int) => false) (Sum.elim (fun (_ : Str) => true) (fun (_ : List Str) => false))) a2)) (t_val (x_kd (E := fun (b_ : Unit) => pBl ((Sum.elim (fun (_ : Int) => false) (Sum.elim (fun (_ : Str) => true) (fun (_ : List Str) => false))) a2)) (x_isV (r := fun (b_ : Unit) => (Sum.elim (fun (_ : Int) => false) (Sum.elim (fun (_ : Str) => true) (fun (_ : List Str) => false))) a2) m_isinstance (.inr ⟨m_str, by decide +kernel⟩) (.ty "str") (x_var (p := (pSm pInt (pSm pStr (I_Unlike mg))) a2) 1) (fun _ => tvS (fun _ => tvB tyInt (kit_ty (by decide +kernel))) (fun _ => tvS (fun _ => tvB tyStr (kit_ty (by decide +kernel))) (fun _ => tvI gC_Unlike hC_Unlike (C.isF_Unlike _ gC_Unlike) (C.is_Unlike_str _ gC_Unlike)))))))) (fun (b54 : Unit) => s_T (T := ((if ((fun (o_ : Option (Int ⊕ (Str ⊕ (List Str)))) => o_.elim false (Sum.elim (fun (_ : Int) => false) (Sum.elim (fun (_ : Str) => true) (fun (_ : List Str) => false)))) a1) = true then (a1).bind fun u61 => (smR u61).bind fun u62 => (smL u62).bind fun u63 => (smR a2).bind fun u64 => (smL u64).bind fun u65 => some ((decide (u63 = u65)), ()) else some (false, ()))).bind fun c66 => some (c66.1)) (s_ret (P := (fun _ => [])) (Rp := pBl) (ι := id) (rv := fun (b : (Unit × (Bool × Unit))) => b.2.1) (fun _ _ _ h => by exact h) (x_kd (x_kd (E := fun (b_ : (Unit × (Bool × Unit))) => pBl b_.2.1) (v_andM (ΔS := fun (b_ : Unit) (s_ : Unit) => []) (s1 := fun (b_ : Unit) => ()) (s2 := fun (b_ : Unit) (c_ : ((((Unit × (Int ⊕ (Str ⊕ (List Str)))) × (Str ⊕ (List Str))) × Str) × ((Unit × (Str ⊕ (List Str))) × Str))) => ()) (x_kd (E := fun (b_ : Unit) => pBl ((fun (o_ : Option (Int ⊕ (Str ⊕ (List Str)))) => o_.elim false (Sum.elim (fun (_ : Int) => false) (Sum.elim (fun (_ : Str) => true) (fun (_ : List Str) => false)))) a1)) (x_isV (r := fun (b_ : Unit) => (fun (o_ : Option (Int ⊕ (Str ⊕ (List Str)))) => o_.elim false (Sum.elim (fun (_ : Int) => false) (Sum.elim (fun (_ : Str) => true) (fun (_ : List Str) => false)))) a1) m_isinstance (.inr ⟨m_str, by decide +kernel⟩) (.ty "str") (x_var (p := (pOp (pSm pInt (pSm pStr (I_Unlike mg)))) a1) 0) (fun _ => tvO (kit_ty (by decide +kernel)) (fun _ => tvS (fun _ => tvB tyInt (kit_ty (by decide +kernel))) (fun _ => tvS (fun _ => tvB tyStr (kit_ty (by decide +kernel))) (fun _ => tvI gC_Unlike hC_Unlike (C.isF_Unlike _ gC_Unlike) (C.is_Unlike_str _ gC_Unlike))))))) (fun (b60 : Unit) => v_one (x_kd (E := fun (b_ : ((((Unit × (Int ⊕ (Str ⊕ (List Str)))) × (Str ⊕ (List Str))) × Str) × ((Unit × (Str ⊕ (List Str))) × Str))) => pBl (decide (b_.1.2 = b_.2.2))) (x_eqS (x_inl (E := pStr) (G := (I_Unlike mg)) (x_inr (E := pInt) (G := (pSm pStr (I_Unlike mg))) (x_some (Ee := (pSm pInt (pSm pStr (I_Unlike mg)))) (x_var (p := (pOp (pSm pInt (pSm pStr (I_Unlike mg)))) a1) 0)))) (fun _ => x_inl (E := pStr) (G := (I_Unlike mg)) (x_inr (E := pInt) (G := (pSm pStr (I_Unlike mg))) (x_var (p := (pSm pInt (pSm pStr (I_Unlike mg))) a2) 1)))))) (fun _ => rfl) (fun _ _ => rfl)))) (fun _ => List.Sublist.refl _))) fun (b54 : Unit) => s_T (T := (a1).bind fun u67 => (smL u67).bind fun u68 => (M_l_is_integer u68).bind fun r69 => ((if r69 = true then (a1).bind fun u74 => (smL u74).bind fun u75 => (smL a2).bind fun u76 => some ((decide (u75 = u76)), ()) else some (false, ()))).bind fun c77 => some (c77.1)) (s_ret (P := (fun _ => [])) (Rp := pBl) (ι := id) (rv := fun (b : ((((Unit × (Int ⊕ (Str ⊕ (List Str)))) × Int) × Bool) × (Bool × Unit))) => b.2.1) (fun _ _ _ h => by exact h) (x_kd (x_kd (E := fun (b_ : ((((Unit × (Int ⊕ (Str ⊕ (List Str)))) × Int) × Bool) × (Bool × Unit))) => pBl b_.2.1) (v_andM (ΔS := fun (b_ : (((Unit × (Int ⊕ (Str ⊕ (List Str)))) × Int) × Bool)) (s_ : Unit) => []) (s1 := fun (b_ : (((Unit × (Int ⊕ (Str ⊕ (List Str)))) × Int) × Bool)) => ()) (s2 := fun (b_ : (((Unit × (Int ⊕ (Str ⊕ (List Str)))) × Int) × Bool)) (c_ : (((Unit × (Int ⊕ (Str ⊕ (List Str)))) × Int) × (Unit × Int))) => ()) (x_kd (E := fun (b_ : (((Unit × (Int ⊕ (Str ⊕ (List Str)))) × Int) × Bool)) => pBl b_.2) (x_F_f (kk := 1) (E1 := pInt) k_l_is_integer (hr.mono (by decide)) g_l_is_integer F_l_is_integer.kp b_l_is_integer (x_inl (E := pInt) (G := (pSm pStr (I_Unlike mg))) (x_some (Ee := (pSm pInt (pSm pStr (I_Unlike mg)))) (x_var (p := (pOp (pSm pInt (pSm pStr (I_Unlike mg)))) a1) 0))))) (fun (b73 : (((Unit × (Int ⊕ (Str ⊕ (List Str)))) × Int) × Bool)) => v_one (x_kd (E := fun (b_ : (((Unit × (Int ⊕ (Str ⊕ (List Str)))) × Int) × (Unit × Int))) => pBl (decide (b_.1.2 = b_.2.2))) (x_eqI (x_inl (E := pInt) (G := (pSm pStr (I_Unlike mg))) (x_some (Ee := (pSm pInt (pSm pStr (I_Unlike mg)))) (x_var (p := (pOp (pSm pInt (pSm pStr (I_Unlike mg)))) a1) 0))) (fun _ => x_inl (E := pInt) (G := (pSm pStr (I_Unlike mg))) (x_var (p := (pSm pInt (pSm pStr (I_Unlike mg))) a2) 1))))) (fun _ => rfl) (fun _ _ => rfl)))) (fun _ => List.Sublist.refl _))))) (by unfold M_l_same_state; rfl)
end
end My
end
section
set_option maxHeartbeats 4000000
set_option synthInstance.maxSize 2000
namespace My
open PySem PySem.Spec PyProof.Rows L2 L3
section
variable {P : Program} {w : World} {K : PySem.W.Frag} {mg : Str → Option Value} {base : Heap}
theorem sc_History___init__ : FnScope ["self", "start"] ["self", "start"] (defScope (mth 28 0)) := ⟨rfl, rfl, rfl, by decide +kernel, rfl, by decide +kernel, by decide +kernel⟩
theorem ok_History___init__ {f : Addr} {fd : FuncData} (C : Ev P K mg) (FD : FunD K "__init__" "History.__init__" (defArgs (mth 28 0)) (defBody (mth 28 0)) (defScope (mth 28 0)) [] [] f fd) : FnOk P w K mg base CX0 1 f fd ["self", "start"] (Sp_IO mg "History" (fun (a : (Int ⊕ (Str ⊕ (List Str)))) => ([(pSm pInt (pSm pStr (I_Unlike mg))) a] : List Pd)) (fun (a : (Int ⊕ (Str ⊕ (List Str)))) => M_History___init__ a) ["_done", "_undone"] (fun (z_ : ((List (Int ⊕ (Str ⊕ (List Str)))) × (List (Int ⊕ (Str ⊕ (List Str)))))) => [(oL (pSm pInt (pSm pStr (I_Unlike mg)))) z_.1, (oL (pSm pInt (pSm pStr (I_Unlike mg)))) z_.2])) := by
  obtain ⟨C_History, fI_History, fdI_History, gC_History, hC_History, hK_History, FI_History, n_History__done, n_History__undone⟩ := C.c_History
  refine fn_IO (A := (fun (a : (Int ⊕ (Str ⊕ (List Str)))) => ([(pSm pInt (pSm pStr (I_Unlike mg))) a] : List Pd))) (Mf := (fun (a : (Int ⊕ (Str ⊕ (List Str)))) => M_History___init__ a)) (ns := ["_done", "_undone"]) (R := (fun (z_ : ((List (Int ⊕ (Str ⊕ (List Str)))) × (List (Int ⊕ (Str ⊕ (List Str)))))) => [(oL (pSm pInt (pSm pStr (I_Unlike mg)))) z_.1, (oL (pSm pInt (pSm pStr (I_Unlike mg)))) z_.2])) FD sc_History___init__ (fun _ => rfl) rfl fun cdv A outer s H E hr x0 a1 => ?_
  exact s_is (s_T (T := some ([a1], [])) (s_fldO (cn := "History") (ns := []) (ds := fun _ _ => []) 0 gC_History hC_History n_History__done (by decide +kernel) (by decide) (o_kd (E := fun (b_ : (Unit × Unit)) => (oL (pSm pInt (pSm pStr (I_Unlike mg)))) ([a1])) (x_disp (pSm pInt (pSm pStr (I_Unlike mg))) (fun _ => [_]) (a_cons (x_var (p := (pSm pInt (pSm pStr (I_Unlike mg))) a1) 1) (fun _ => a_nil)) (fun _ => rfl) (fun _ => by simp))) (fun _ _ => x_var (p := pV (.ref x0)) 0) (fun _ _ => rfl) (fun _ _ => rfl) fun (b149 : (Unit × Unit)) _ => s_T (T := some ([a1], [])) (s_fldO (cn := "History") (ns := ["_done"]) (ds := fun _ _ => [(oL (pSm pInt (pSm pStr (I_Unlike mg)))) ([a1])]) 0 gC_History hC_History n_History__undone (by decide +kernel) (by decide) (o_kd (E := fun (b_ : Unit) => (oL (pSm pInt (pSm pStr (I_Unlike mg)))) ([])) (x_nil (pSm pInt (pSm pStr (I_Unlike mg))))) (fun _ _ => x_var (p := pV (.ref x0)) 0) (fun _ _ => rfl) (fun _ _ => rfl) fun (b150 : Unit) _ => s_endI ([a1], []) (List.Sublist.refl _)))) (by unfold M_History___init__; rfl)
end
end My
end
section
set_option maxHeartbeats 4000000
set_option synthInstance.maxSize 2000
namespace My
open PySem PySem.Spec PyProof.Rows L2 L3
section
variable {P : Program} {w : World} {K : PySem.W.Frag} {mg : Str → Option Value} {base : Heap}
theorem sc_History_state : FnScope ["self"] ["self"] (defScope (mth 28 1)) := ⟨rfl, rfl, rfl, by decide +kernel, rfl, by decide +kernel, by decide +kernel⟩
theorem ok_History_state {f : Addr} {fd : FuncData} (C : Ev P K mg) (FD : FunD K "state" "History.state" (defArgs (mth 28 1)) (defBody (mth 28 1)) (defScope (mth 28 1)) [] [] f fd) : FnOk P w K mg base CX0 1 f fd ["self"] (SpF (fun (a : ((List (Int ⊕ (Str ⊕ (List Str)))) × (List (Int ⊕ (Str ⊕ (List Str)))))) => ([(I_History mg) a] : List Pd)) (fun (a : ((List (Int ⊕ (Str ⊕ (List Str)))) × (List (Int ⊕ (Str ⊕ (List Str)))))) => M_History_state a) (pSm pInt (pSm pStr (I_Unlike mg)))) := by
  obtain ⟨C_History, fI_History, fdI_History, gC_History, hC_History, hK_History, FI_History, n_History__done, n_History__undone⟩ := C.c_History
  refine fn_F0 (A := (fun (a : ((List (Int ⊕ (Str ⊕ (List Str)))) × (List (Int ⊕ (Str ⊕ (List Str)))))) => ([(I_History mg) a] : List Pd))) (Mf := (fun (a : ((List (Int ⊕ (Str ⊕ (List Str)))) × (List (Int ⊕ (Str ⊕ (List Str)))))) => M_History_state a)) FD sc_History_state (fun _ => rfl) rfl fun cdv A outer s H E hr a1 => ?_
  exact s_is (s_T (T := (atI a1.1 (-(1 : Int))).bind fun x151 => some x151) (s_ret (P := (fun _ => [])) (Rp := (pSm pInt (pSm pStr (I_Unlike mg)))) (ι := id) (rv := fun (b : ((Unit × Unit) × (Int ⊕ (Str ⊕ (List Str))))) => b.2) (fun _ _ _ h => by exact h) (x_kd (x_kd (E := fun (b_ : ((Unit × Unit) × (Int ⊕ (Str ⊕ (List Str))))) => (pSm pInt (pSm pStr (I_Unlike mg))) b_.2) (x_ixL (Ee := (pSm pInt (pSm pStr (I_Unlike mg)))) (x_kd (E := fun (b_ : Unit) => (pL (pSm pInt (pSm pStr (I_Unlike mg)))) a1.1) (x_fld (cn := "History") (f := "_done") (pL (pSm pInt (pSm pStr (I_Unlike mg)))) 0 gC_History hC_History n_History__done (by decide +kernel) (x_var (p := (I_History mg) a1) 0))) (fun _ => x_kd (E := fun (b_ : Unit) => pInt (-(1 : Int))) (x_neg (x_int (i := 1)))) (fun _ _ => rdF)))) (fun _ => List.Sublist.refl _))) (by unfold M_History_state; rfl)
end
end My
end
section
set_option maxHeartbeats 4000000
set_option synthInstance.maxSize 2000
namespace My
open PySem PySem.Spec PyProof.Rows L2 L3
section
variable {P : Program} {w : World} {K : PySem.W.Frag} {mg : Str → Option Value} {base : Heap}
theorem sc_History_steps : FnScope ["self"] ["self"] (defScope (mth 28 2)) := ⟨rfl, rfl, rfl, by decide +kernel, rfl, by decide +kernel, by decide +kernel⟩
theorem ok_History_steps {f : Addr} {fd : FuncData} (C : Ev P K mg) (FD : FunD K "steps" "History.steps" (defArgs (mth 28 2)) (defBody (mth 28 2)) (defScope (mth 28 2)) [] [] f fd) : FnOk P w K mg base CX0 1 f fd ["self"] (SpF (fun (a : ((List (Int ⊕ (Str ⊕ (List Str)))) × (List (Int ⊕ (Str ⊕ (List Str)))))) => ([(I_History mg) a] : List Pd)) (fun (a : ((List (Int ⊕ (Str ⊕ (List Str)))) × (List (Int ⊕ (Str ⊕ (List Str)))))) => M_History_steps a) pInt) := by
  obtain ⟨C_History, fI_History, fdI_History, gC_History, hC_History, hK_History, FI_History, n_History__done, n_History__undone⟩ := C.c_History
  have m_len := C.m_len
  refine fn_F0 (A := (fun (a : ((List (Int ⊕ (Str ⊕ (List Str)))) × (List (Int ⊕ (Str ⊕ (List Str)))))) => ([(I_History mg) a] : List Pd))) (Mf := (fun (a : ((List (Int ⊕ (Str ⊕ (List Str)))) × (List (Int ⊕ (Str ⊕ (List Str)))))) => M_History_steps a)) FD sc_History_steps (fun _ => rfl) rfl fun cdv A outer s H E hr a1 => ?_
  exact s_is (s_T (T := some ((a1.1.length : Int) - (1 : Int))) (s_ret (P := (fun _ => [])) (Rp := pInt) (ι := id) (rv := fun (b : (Unit × Unit)) => ((a1.1.length : Int) - (1 : Int))) (fun _ _ _ h => by exact h) (x_kd (x_kd (E := fun (b_ : (Unit × Unit)) => pInt ((a1.1.length : Int) - (1 : Int))) (x_sub (x_kd (E := fun (b_ : Unit) => pInt (a1.1.length : Int)) (x_lenL (Ee := (pSm pInt (pSm pStr (I_Unlike mg)))) m_len (x_kd (E := fun (b_ : Unit) => (pL (pSm pInt (pSm pStr (I_Unlike mg)))) a1.1) (x_fld (cn := "History") (f := "_done") (pL (pSm pInt (pSm pStr (I_Unlike mg)))) 0 gC_History hC_History n_History__done (by decide +kernel) (x_var (p := (I_History mg) a1) 0))) (fun _ => rdF))) (fun _ => x_int (i := 1))))) (fun _ => List.Sublist.refl _))) (by unfold M_History_steps; rfl)
end
end My
end
section
set_option maxHeartbeats 4000000
set_option synthInstance.maxSize 2000
namespace My
open PySem PySem.Spec PyProof.Rows L2 L3
section
variable {P : Program} {w : World} {K : PySem.W.Frag} {mg : Str → Option Value} {base : Heap}
theorem sc_History_undone : FnScope ["self"] ["self"] (defScope (mth 28 3)) := ⟨rfl, rfl, rfl, by decide +kernel, rfl, by decide +kernel, by decide +kernel⟩
theorem ok_History_undone {f : Addr} {fd : FuncData} (C : Ev P K mg) (FD : FunD K "undone" "History.undone" (defArgs (mth 28 3)) (defBody (mth 28 3)) (defScope (mth 28 3)) [] [] f fd) : FnOk P w K mg base CX0 1 f fd ["self"] (SpF (fun (a : ((List (Int ⊕ (Str ⊕ (List Str)))) × (List (Int ⊕ (Str ⊕ (List Str)))))) => ([(I_History mg) a] : List Pd)) (fun (a : ((List (Int ⊕ (Str ⊕ (List Str)))) × (List (Int ⊕ (Str ⊕ (List Str)))))) => M_History_undone a) pInt) := by
  obtain ⟨C_History, fI_History, fdI_History, gC_History, hC_History, hK_History, FI_History, n_History__done, n_History__undone⟩ := C.c_History
  have m_len := C.m_len
  refine fn_F0 (A := (fun (a : ((List (Int ⊕ (Str ⊕ (List Str)))) × (List (Int ⊕ (Str ⊕ (List Str)))))) => ([(I_History mg) a] : List Pd))) (Mf := (fun (a : ((List (Int ⊕ (Str ⊕ (List Str)))) × (List (Int ⊕ (Str ⊕ (List Str)))))) => M_History_undone a)) FD sc_History_undone (fun _ => rfl) rfl fun cdv A outer s H E hr a1 => ?_
  exact s_is (s_T (T := some (a1.2.length : Int)) (s_ret (P := (fun _ => [])) (Rp := pInt) (ι := id) (rv := fun (b : Unit) => (a1.2.length : Int)) (fun _ _ _ h => by exact h) (x_kd (E := fun (b_ : Unit) => pInt (a1.2.length : Int)) (x_lenL (Ee := (pSm pInt (pSm pStr (I_Unlike mg)))) m_len (x_kd (E := fun (b_ : Unit) => (pL (pSm pInt (pSm pStr (I_Unlike mg)))) a1.2) (x_fld (cn := "History") (f := "_undone") (pL (pSm pInt (pSm pStr (I_Unlike mg)))) 1 gC_History hC_History n_History__undone (by decide +kernel) (x_var (p := (I_History mg) a1) 0))) (fun _ => rdF))) (fun _ => List.Sublist.refl _))) (by unfold M_History_undone; rfl)
end
end My
end
section
set_option maxHeartbeats 4000000
set_option synthInstance.maxSize 2000
namespace My
open PySem PySem.Spec PyProof.Rows L2 L3
section
variable {P : Program} {w : World} {K : PySem.W.Frag} {mg : Str → Option Value} {base : Heap}
theorem sc_History_push : FnScope ["self", "state"] ["self", "state"] (defScope (mth 28 4)) := ⟨rfl, rfl, rfl, by decide +kernel, rfl, by decide +kernel, by decide +kernel⟩
theorem ok_History_push {f : Addr} {fd : FuncData} (C : Ev P K mg) (FD : FunD K "push" "History.push" (defArgs (mth 28 4)) (defBody (mth 28 4)) (defScope (mth 28 4)) [] [] f fd) : FnOk P w K mg base CX0 1 f fd ["self", "state"] (SpN (fun (a : (V × ((List (Int ⊕ (Str ⊕ (List Str)))) × (List (Int ⊕ (Str ⊕ (List Str)))))) × (Int ⊕ (Str ⊕ (List Str)))) => ([pV a.1.1, (pSm pInt (pSm pStr (I_Unlike mg))) a.2] : List Pd)) (fun (a : (V × ((List (Int ⊕ (Str ⊕ (List Str)))) × (List (Int ⊕ (Str ⊕ (List Str)))))) × (Int ⊕ (Str ⊕ (List Str)))) => ([⟨a.1.1, (O_History mg) a.1.2, some 0⟩] : List Cell)) (fun (a : (V × ((List (Int ⊕ (Str ⊕ (List Str)))) × (List (Int ⊕ (Str ⊕ (List Str)))))) × (Int ⊕ (Str ⊕ (List Str)))) => M_History_push a.1.2 a.2) (fun (a : (V × ((List (Int ⊕ (Str ⊕ (List Str)))) × (List (Int ⊕ (Str ⊕ (List Str)))))) × (Int ⊕ (Str ⊕ (List Str)))) (r : Unit × ((List (Int ⊕ (Str ⊕ (List Str)))) × (List (Int ⊕ (Str ⊕ (List Str)))))) => ([⟨a.1.1, (O_History mg) r.2, some 0⟩] : List Cell)) (fun (r : Unit × ((List (Int ⊕ (Str ⊕ (List Str)))) × (List (Int ⊕ (Str ⊕ (List Str)))))) => pUnit r.1)) := by
  obtain ⟨C_History, fI_History, fdI_History, gC_History, hC_History, hK_History, FI_History, n_History__done, n_History__undone⟩ := C.c_History
  refine fn_NU (A := (fun (a : (V × ((List (Int ⊕ (Str ⊕ (List Str)))) × (List (Int ⊕ (Str ⊕ (List Str)))))) × (Int ⊕ (Str ⊕ (List Str)))) => ([pV a.1.1, (pSm pInt (pSm pStr (I_Unlike mg))) a.2] : List Pd))) (C := (fun (a : (V × ((List (Int ⊕ (Str ⊕ (List Str)))) × (List (Int ⊕ (Str ⊕ (List Str)))))) × (Int ⊕ (Str ⊕ (List Str)))) => ([⟨a.1.1, (O_History mg) a.1.2, some 0⟩] : List Cell))) (Mf := (fun (a : (V × ((List (Int ⊕ (Str ⊕ (List Str)))) × (List (Int ⊕ (Str ⊕ (List Str)))))) × (Int ⊕ (Str ⊕ (List Str)))) => M_History_push a.1.2 a.2)) (Cr := (fun (a : (V × ((List (Int ⊕ (Str ⊕ (List Str)))) × (List (Int ⊕ (Str ⊕ (List Str)))))) × (Int ⊕ (Str ⊕ (List Str)))) (r : Unit × ((List (Int ⊕ (Str ⊕ (List Str)))) × (List (Int ⊕ (Str ⊕ (List Str)))))) => ([⟨a.1.1, (O_History mg) r.2, some 0⟩] : List Cell))) FD sc_History_push (fun _ => rfl) rfl (fun _ => ⟨rfl, trivial⟩) fun cdv A outer s H E hr Gs ⟨⟨v1, a1⟩, a2⟩ => ?_
  exact s_is (s_okE (fun _ _ ok => ok.spl 0 (j := 0) (by rfl) rfl rfl) fun u_done => (s_okE (fun _ _ ok => ok.spl 1 (j := 1) (by rfl) rfl rfl) fun u_undone => (s_T (T := grd (a1.1.length < sizeLine) (some ((), ((a1.1 ++ [a2]), ([] : List (Int ⊕ (Str ⊕ (List Str)))))))) (s_expr (x_app 1 (x_fldVO (cn := "History") (f := "_done") (ns := ["_done", "_undone"]) (ds := fun _ => [oF pV u_done, oF pV u_undone]) (y := fun _ => u_done) pV 0 2 gC_History hC_History n_History__done (by decide +kernel) (x_var (p := pV v1) 0)) (fun _ => x_var (p := (pSm pInt (pSm pStr (I_Unlike mg))) a2) 1) (fun _ => rfl) (fun _ _ => rfl)) fun (b152 : (Unit × Unit)) => s_T (T := some ((), ((a1.1 ++ [a2]), ([] : List (Int ⊕ (Str ⊕ (List Str))))))) (s_expr (x_lclear (E := (pSm pInt (pSm pStr (I_Unlike mg)))) 0 (x_fldVO (cn := "History") (f := "_undone") (ns := ["_done", "_undone"]) (ds := fun _ => [oF pV u_done, oF pV u_undone]) (y := fun _ => u_undone) pV 1 2 gC_History hC_History n_History__undone (by decide +kernel) (x_var (p := pV v1) 0)) (fun _ => rfl)) fun (b153 : Unit) => s_ok (fun _ _ ok => ((((ok.out (j := 1) rfl).unspl 0 (j := 2) rfl rfl).out (j := 0) rfl).unspl 1 (j := 2) rfl rfl)) (s_endI ((), ((a1.1 ++ [a2]), ([] : List (Int ⊕ (Str ⊕ (List Str)))))) (.cons _ (.cons _ (.cons₂ _ (.slnil)))))))))) (by unfold M_History_push; rfl)
end
end My
end
section
set_option maxHeartbeats 4000000
set_option synthInstance.maxSize 2000
namespace My
open PySem PySem.Spec PyProof.Rows L2 L3
section
variable {P : Program} {w : World} {K : PySem.W.Frag} {mg : Str → Option Value} {base : Heap}
theorem sc_History_undo : FnScope ["self"] ["self"] (defScope (mth 28 5)) := ⟨rfl, rfl, rfl, by decide +kernel, rfl, by decide +kernel, by decide +kernel⟩
theorem ok_History_undo {f : Addr} {fd : FuncData} (C : Ev P K mg) (FD : FunD K "undo" "History.undo" (defArgs (mth 28 5)) (defBody (mth 28 5)) (defScope (mth 28 5)) [] [] f fd) : FnOk P w K mg base (L2.CX P w) 1 f fd ["self"] (SpXN (ε := Er) (fun (a : (V × ((List (Int ⊕ (Str ⊕ (List Str)))) × (List (Int ⊕ (Str ⊕ (List Str))))))) => ([pV a.1] : List Pd)) (fun (a : (V × ((List (Int ⊕ (Str ⊕ (List Str)))) × (List (Int ⊕ (Str ⊕ (List Str))))))) => ([⟨a.1, (O_History mg) a.2, some 0⟩] : List Cell)) (fun (a : (V × ((List (Int ⊕ (Str ⊕ (List Str)))) × (List (Int ⊕ (Str ⊕ (List Str))))))) => M_History_undo a.2) (fun (a : (V × ((List (Int ⊕ (Str ⊕ (List Str)))) × (List (Int ⊕ (Str ⊕ (List Str))))))) (r : (Int ⊕ (Str ⊕ (List Str))) × ((List (Int ⊕ (Str ⊕ (List Str)))) × (List (Int ⊕ (Str ⊕ (List Str)))))) => ([⟨a.1, (O_History mg) r.2, some 0⟩] : List Cell)) (fun (r : (Int ⊕ (Str ⊕ (List Str))) × ((List (Int ⊕ (Str ⊕ (List Str)))) × (List (Int ⊕ (Str ⊕ (List Str)))))) => (pSm pInt (pSm pStr (I_Unlike mg))) r.1) (erX mg rsL) (fun (a : (V × ((List (Int ⊕ (Str ⊕ (List Str)))) × (List (Int ⊕ (Str ⊕ (List Str))))))) => ([⟨a.1, (O_History mg) a.2, some 0⟩] : List Cell))) := by
  obtain ⟨fI_NothingToUndo, tx_NothingToUndo⟩ := (C.xs.x "NothingToUndo" (by decide +kernel)).tx
  obtain ⟨C_History, fI_History, fdI_History, gC_History, hC_History, hK_History, FI_History, n_History__done, n_History__undone⟩ := C.c_History
  have m_len := C.m_len
  refine fn_XN (A := (fun (a : (V × ((List (Int ⊕ (Str ⊕ (List Str)))) × (List (Int ⊕ (Str ⊕ (List Str))))))) => ([pV a.1] : List Pd))) (C := (fun (a : (V × ((List (Int ⊕ (Str ⊕ (List Str)))) × (List (Int ⊕ (Str ⊕ (List Str))))))) => ([⟨a.1, (O_History mg) a.2, some 0⟩] : List Cell))) (Mf := (fun (a : (V × ((List (Int ⊕ (Str ⊕ (List Str)))) × (List (Int ⊕ (Str ⊕ (List Str))))))) => M_History_undo a.2)) (Cr := (fun (a : (V × ((List (Int ⊕ (Str ⊕ (List Str)))) × (List (Int ⊕ (Str ⊕ (List Str))))))) (r : (Int ⊕ (Str ⊕ (List Str))) × ((List (Int ⊕ (Str ⊕ (List Str)))) × (List (Int ⊕ (Str ⊕ (List Str)))))) => ([⟨a.1, (O_History mg) r.2, some 0⟩] : List Cell))) (Cx := (fun (a : (V × ((List (Int ⊕ (Str ⊕ (List Str)))) × (List (Int ⊕ (Str ⊕ (List Str))))))) => ([⟨a.1, (O_History mg) a.2, some 0⟩] : List Cell))) FD sc_History_undo (fun _ => rfl) rfl (fun _ => ⟨rfl, trivial⟩) fun cdv A outer s H E hr Gs ⟨v1, a1⟩ tk => ?_
  exact s_is (s_okE (fun _ _ ok => ok.spl 0 (j := 0) (by rfl) rfl rfl) fun u_done => (s_okE (fun _ _ ok => ok.spl 1 (j := 1) (by rfl) rfl rfl) fun u_undone => (s_T (T := if (decide ((a1.1.length : Int) = (1 : Int))) = true then some ((Except.error) (⟨"NothingToUndo", []⟩ : Er)) else (popL a1.1).bind fun q159 => grd (a1.2.length < sizeLine) ((atI (q159.2) (-(1 : Int))).bind fun x161 => some (Except.ok (ε := Er) (x161, (q159.2, (a1.2 ++ [q159.1])))))) (s_ifT (ins_X (ins_F _)) (t_kd (c := fun (b_ : (Unit × Unit)) => (decide ((a1.1.length : Int) = (1 : Int)))) (t_eqI (x_kd (E := fun (b_ : Unit) => pInt (a1.1.length : Int)) (x_lenL (Ee := (pSm pInt (pSm pStr (I_Unlike mg)))) m_len (x_fldVO (cn := "History") (f := "_done") (ns := ["_done", "_undone"]) (ds := fun _ => [oF pV u_done, oF pV u_undone]) (y := fun _ => u_done) pV 0 2 gC_History hC_History n_History__done (by decide +kernel) (x_var (p := pV v1) 0)) (fun _ => rdO 1))) (fun _ => x_int (i := 1)))) (fun (b156 : (Unit × Unit)) => s_T (T := some ((Except.error) (⟨"NothingToUndo", []⟩ : Er))) (s_ok (fun _ _ ok => ((((ok.out (j := 1) rfl).unspl 0 (j := 2) rfl rfl).out (j := 0) rfl).unspl 1 (j := 2) rfl rfl)) (s_raise0 (er := (⟨"NothingToUndo", []⟩ : Er)) tk ex_X tx_NothingToUndo (C.xs.x "NothingToUndo" (by decide +kernel)).g C.xs.sup hr rfl (fun _ _ _ h => by exact ⟨(show ("NothingToUndo" : Str) ∈ rsL from by decide +kernel), h⟩) (.cons _ (.cons _ (.cons₂ _ (.slnil)))) (fun _ _ _ => trivial)))) fun (b156 : (Unit × Unit)) => s_T (T := (popL a1.1).bind fun q159 => grd (a1.2.length < sizeLine) ((atI (q159.2) (-(1 : Int))).bind fun x161 => some (Except.ok (ε := Er) (x161, (q159.2, (a1.2 ++ [q159.1])))))) (s_expr (x_app 0 (x_fldVO (cn := "History") (f := "_undone") (ns := ["_done", "_undone"]) (ds := fun _ => [oF pV u_done, oF pV u_undone]) (y := fun _ => u_undone) pV 1 2 gC_History hC_History n_History__undone (by decide +kernel) (x_var (p := pV v1) 0)) (fun _ => x_kd (E := fun (b_ : (Unit × ((Int ⊕ (Str ⊕ (List Str))) × List (Int ⊕ (Str ⊕ (List Str)))))) => (pSm pInt (pSm pStr (I_Unlike mg))) b_.2.1) (x_popF (Ee := (pSm pInt (pSm pStr (I_Unlike mg)))) 1 (f_var (D := (oL (pSm pInt (pSm pStr (I_Unlike mg))))) (x_fldVO (cn := "History") (f := "_done") (ns := ["_done", "_undone"]) (ds := fun _ => [oF pV u_done, oF pV u_undone]) (y := fun _ => u_done) pV 0 2 gC_History hC_History n_History__done (by decide +kernel) (x_var (p := pV v1) 0))))) (fun _ => rfl) (fun _ _ => rfl)) fun (b160 : (Unit × (Unit × ((Int ⊕ (Str ⊕ (List Str))) × List (Int ⊕ (Str ⊕ (List Str))))))) => s_T (T := (atI (b160.2.2.2) (-(1 : Int))).bind fun x161 => some (Except.ok (ε := Er) (x161, (b160.2.2.2, (a1.2 ++ [b160.2.2.1]))))) (s_ret (P := (fun (r : (Int ⊕ (Str ⊕ (List Str))) × ((List (Int ⊕ (Str ⊕ (List Str)))) × (List (Int ⊕ (Str ⊕ (List Str)))))) => [⟨v1, (O_History mg) r.2, some 0⟩])) (Rp := (fun (r : (Int ⊕ (Str ⊕ (List Str))) × ((List (Int ⊕ (Str ⊕ (List Str)))) × (List (Int ⊕ (Str ⊕ (List Str)))))) => (pSm pInt (pSm pStr (I_Unlike mg))) r.1)) (ι := (Except.ok (ε := Er))) (rv := fun (b : ((Unit × Unit) × (Int ⊕ (Str ⊕ (List Str))))) => (b.2, (b160.2.2.2, (a1.2 ++ [b160.2.2.1])))) (fun _ _ _ h => by exact h) (x_ok (x_kd (x_kd (E := fun (b_ : ((Unit × Unit) × (Int ⊕ (Str ⊕ (List Str))))) => (pSm pInt (pSm pStr (I_Unlike mg))) b_.2) (x_ixL (Ee := (pSm pInt (pSm pStr (I_Unlike mg)))) (x_fldVO (cn := "History") (f := "_done") (ns := ["_done", "_undone"]) (ds := fun _ => [oF pV u_done, oF pV u_undone]) (y := fun _ => u_done) pV 0 2 gC_History hC_History n_History__done (by decide +kernel) (x_var (p := pV v1) 0)) (fun _ => x_kd (E := fun (b_ : Unit) => pInt (-(1 : Int))) (x_neg (x_int (i := 1)))) (fun _ _ => rdO 1)))) fun _ _ _ ok => ((((ok.out (j := 1) rfl).unspl 0 (j := 2) rfl rfl).out (j := 0) rfl).unspl 1 (j := 2) rfl rfl)) (fun _ => .cons _ (.cons _ (.cons₂ _ (.slnil)))))))))) (by unfold M_History_undo; rfl)
end
end My
end
section
set_option maxHeartbeats 4000000
set_option synthInstance.maxSize 2000
namespace My
open PySem PySem.Spec PyProof.Rows L2 L3
section
variable {P : Program} {w : World} {K : PySem.W.Frag} {mg : Str → Option Value} {base : Heap}
theorem sc_History_redo : FnScope ["self"] ["self"] (defScope (mth 28 6)) := ⟨rfl, rfl, rfl, by decide +kernel, rfl, by decide +kernel, by decide +kernel⟩
theorem ok_History_redo {f : Addr} {fd : FuncData} (C : Ev P K mg) (FD : FunD K "redo" "History.redo" (defArgs (mth 28 6)) (defBody (mth 28 6)) (defScope (mth 28 6)) [] [] f fd) : FnOk P w K mg base (L2.CX P w) 1 f fd ["self"] (SpXN (ε := Er) (fun (a : (V × ((List (Int ⊕ (Str ⊕ (List Str)))) × (List (Int ⊕ (Str ⊕ (List Str))))))) => ([pV a.1] : List Pd)) (fun (a : (V × ((List (Int ⊕ (Str ⊕ (List Str)))) × (List (Int ⊕ (Str ⊕ (List Str))))))) => ([⟨a.1, (O_History mg) a.2, some 0⟩] : List Cell)) (fun (a : (V × ((List (Int ⊕ (Str ⊕ (List Str)))) × (List (Int ⊕ (Str ⊕ (List Str))))))) => M_History_redo a.2) (fun (a : (V × ((List (Int ⊕ (Str ⊕ (List Str)))) × (List (Int ⊕ (Str ⊕ (List Str))))))) (r : (Int ⊕ (Str ⊕ (List Str))) × ((List (Int ⊕ (Str ⊕ (List Str)))) × (List (Int ⊕ (Str ⊕ (List Str)))))) => ([⟨a.1, (O_History mg) r.2, some 0⟩] : List Cell)) (fun (r : (Int ⊕ (Str ⊕ (List Str))) × ((List (Int ⊕ (Str ⊕ (List Str)))) × (List (Int ⊕ (Str ⊕ (List Str)))))) => (pSm pInt (pSm pStr (I_Unlike mg))) r.1) (erX mg rsL) (fun (a : (V × ((List (Int ⊕ (Str ⊕ (List Str)))) × (List (Int ⊕ (Str ⊕ (List Str))))))) => ([⟨a.1, (O_History mg) a.2, some 0⟩] : List Cell))) := by
  obtain ⟨fI_NothingToRedo, tx_NothingToRedo⟩ := (C.xs.x "NothingToRedo" (by decide +kernel)).tx
  obtain ⟨C_History, fI_History, fdI_History, gC_History, hC_History, hK_History, FI_History, n_History__done, n_History__undone⟩ := C.c_History
  refine fn_XN (A := (fun (a : (V × ((List (Int ⊕ (Str ⊕ (List Str)))) × (List (Int ⊕ (Str ⊕ (List Str))))))) => ([pV a.1] : List Pd))) (C := (fun (a : (V × ((List (Int ⊕ (Str ⊕ (List Str)))) × (List (Int ⊕ (Str ⊕ (List Str))))))) => ([⟨a.1, (O_History mg) a.2, some 0⟩] : List Cell))) (Mf := (fun (a : (V × ((List (Int ⊕ (Str ⊕ (List Str)))) × (List (Int ⊕ (Str ⊕ (List Str))))))) => M_History_redo a.2)) (Cr := (fun (a : (V × ((List (Int ⊕ (Str ⊕ (List Str)))) × (List (Int ⊕ (Str ⊕ (List Str))))))) (r : (Int ⊕ (Str ⊕ (List Str))) × ((List (Int ⊕ (Str ⊕ (List Str)))) × (List (Int ⊕ (Str ⊕ (List Str)))))) => ([⟨a.1, (O_History mg) r.2, some 0⟩] : List Cell))) (Cx := (fun (a : (V × ((List (Int ⊕ (Str ⊕ (List Str)))) × (List (Int ⊕ (Str ⊕ (List Str))))))) => ([⟨a.1, (O_History mg) a.2, some 0⟩] : List Cell))) FD sc_History_redo (fun _ => rfl) rfl (fun _ => ⟨rfl, trivial⟩) fun cdv A outer s H E hr Gs ⟨v1, a1⟩ tk => ?_
  exact s_is (s_okE (fun _ _ ok => ok.spl 0 (j := 0) (by rfl) rfl rfl) fun u_done => (s_okE (fun _ _ ok => ok.spl 1 (j := 1) (by rfl) rfl rfl) fun u_undone => (s_T (T := if (!(!a1.2.isEmpty)) = true then some ((Except.error) (⟨"NothingToRedo", []⟩ : Er)) else (popL a1.2).bind fun q167 => grd (a1.1.length < sizeLine) ((atI (a1.1 ++ [q167.1]) (-(1 : Int))).bind fun x169 => some (Except.ok (ε := Er) (x169, ((a1.1 ++ [q167.1]), q167.2))))) (s_ifT (ins_X (ins_F _)) (t_kd (c := fun (b_ : Unit) => (!(!a1.2.isEmpty))) (t_not (t_kd (c := fun (b_ : Unit) => (!a1.2.isEmpty)) (t_truV (E := (pSm pInt (pSm pStr (I_Unlike mg)))) 0 (x_fldVO (cn := "History") (f := "_undone") (ns := ["_done", "_undone"]) (ds := fun _ => [oF pV u_done, oF pV u_undone]) (y := fun _ => u_undone) pV 1 2 gC_History hC_History n_History__undone (by decide +kernel) (x_var (p := pV v1) 0)))))) (fun (b164 : Unit) => s_T (T := some ((Except.error) (⟨"NothingToRedo", []⟩ : Er))) (s_ok (fun _ _ ok => ((((ok.out (j := 1) rfl).unspl 0 (j := 2) rfl rfl).out (j := 0) rfl).unspl 1 (j := 2) rfl rfl)) (s_raise0 (er := (⟨"NothingToRedo", []⟩ : Er)) tk ex_X tx_NothingToRedo (C.xs.x "NothingToRedo" (by decide +kernel)).g C.xs.sup hr rfl (fun _ _ _ h => by exact ⟨(show ("NothingToRedo" : Str) ∈ rsL from by decide +kernel), h⟩) (.cons _ (.cons _ (.cons₂ _ (.slnil)))) (fun _ _ _ => trivial)))) fun (b164 : Unit) => s_T (T := (popL a1.2).bind fun q167 => grd (a1.1.length < sizeLine) ((atI (a1.1 ++ [q167.1]) (-(1 : Int))).bind fun x169 => some (Except.ok (ε := Er) (x169, ((a1.1 ++ [q167.1]), q167.2))))) (s_expr (x_app 1 (x_fldVO (cn := "History") (f := "_done") (ns := ["_done", "_undone"]) (ds := fun _ => [oF pV u_done, oF pV u_undone]) (y := fun _ => u_done) pV 0 2 gC_History hC_History n_History__done (by decide +kernel) (x_var (p := pV v1) 0)) (fun _ => x_kd (E := fun (b_ : (Unit × ((Int ⊕ (Str ⊕ (List Str))) × List (Int ⊕ (Str ⊕ (List Str)))))) => (pSm pInt (pSm pStr (I_Unlike mg))) b_.2.1) (x_popF (Ee := (pSm pInt (pSm pStr (I_Unlike mg)))) 0 (f_var (D := (oL (pSm pInt (pSm pStr (I_Unlike mg))))) (x_fldVO (cn := "History") (f := "_undone") (ns := ["_done", "_undone"]) (ds := fun _ => [oF pV u_done, oF pV u_undone]) (y := fun _ => u_undone) pV 1 2 gC_History hC_History n_History__undone (by decide +kernel) (x_var (p := pV v1) 0))))) (fun _ => rfl) (fun _ _ => rfl)) fun (b168 : (Unit × (Unit × ((Int ⊕ (Str ⊕ (List Str))) × List (Int ⊕ (Str ⊕ (List Str))))))) => s_T (T := (atI (a1.1 ++ [b168.2.2.1]) (-(1 : Int))).bind fun x169 => some (Except.ok (ε := Er) (x169, ((a1.1 ++ [b168.2.2.1]), b168.2.2.2)))) (s_ret (P := (fun (r : (Int ⊕ (Str ⊕ (List Str))) × ((List (Int ⊕ (Str ⊕ (List Str)))) × (List (Int ⊕ (Str ⊕ (List Str)))))) => [⟨v1, (O_History mg) r.2, some 0⟩])) (Rp := (fun (r : (Int ⊕ (Str ⊕ (List Str))) × ((List (Int ⊕ (Str ⊕ (List Str)))) × (List (Int ⊕ (Str ⊕ (List Str)))))) => (pSm pInt (pSm pStr (I_Unlike mg))) r.1)) (ι := (Except.ok (ε := Er))) (rv := fun (b : ((Unit × Unit) × (Int ⊕ (Str ⊕ (List Str))))) => (b.2, ((a1.1 ++ [b168.2.2.1]), b168.2.2.2))) (fun _ _ _ h => by exact h) (x_ok (x_kd (x_kd (E := fun (b_ : ((Unit × Unit) × (Int ⊕ (Str ⊕ (List Str))))) => (pSm pInt (pSm pStr (I_Unlike mg))) b_.2) (x_ixL (Ee := (pSm pInt (pSm pStr (I_Unlike mg)))) (x_fldVO (cn := "History") (f := "_done") (ns := ["_done", "_undone"]) (ds := fun _ => [oF pV u_done, oF pV u_undone]) (y := fun _ => u_done) pV 0 2 gC_History hC_History n_History__done (by decide +kernel) (x_var (p := pV v1) 0)) (fun _ => x_kd (E := fun (b_ : Unit) => pInt (-(1 : Int))) (x_neg (x_int (i := 1)))) (fun _ _ => rdO 1)))) fun _ _ _ ok => ((((ok.out (j := 1) rfl).unspl 0 (j := 2) rfl rfl).out (j := 0) rfl).unspl 1 (j := 2) rfl rfl)) (fun _ => .cons _ (.cons _ (.cons₂ _ (.slnil)))))))))) (by unfold M_History_redo; rfl)
end
end My
end
section
set_option maxHeartbeats 4000000
set_option synthInstance.maxSize 2000
namespace My
open PySem PySem.Spec PyProof.Rows L2 L3
section
variable {P : Program} {w : World} {K : PySem.W.Frag} {mg : Str → Option Value} {base : Heap}
theorem sc_History_back_to : FnScope ["self", "steps"] ["self", "steps"] (defScope (mth 28 7)) := ⟨rfl, rfl, rfl, by decide +kernel, rfl, by decide +kernel, by decide +kernel⟩
theorem ok_History_back_to {f : Addr} {fd : FuncData} (C : Ev P K mg) (FD : FunD K "back_to" "History.back_to" (defArgs (mth 28 7)) (defBody (mth 28 7)) (defScope (mth 28 7)) [] [] f fd) : FnOk P w K mg base (L2.CX P w) 1 f fd ["self", "steps"] (SpXN (ε := Er) (fun (a : (V × ((List (Int ⊕ (Str ⊕ (List Str)))) × (List (Int ⊕ (Str ⊕ (List Str)))))) × Int) => ([pV a.1.1, pInt a.2] : List Pd)) (fun (a : (V × ((List (Int ⊕ (Str ⊕ (List Str)))) × (List (Int ⊕ (Str ⊕ (List Str)))))) × Int) => ([⟨a.1.1, (O_History mg) a.1.2, some 0⟩] : List Cell)) (fun (a : (V × ((List (Int ⊕ (Str ⊕ (List Str)))) × (List (Int ⊕ (Str ⊕ (List Str)))))) × Int) => M_History_back_to a.1.2 a.2) (fun (a : (V × ((List (Int ⊕ (Str ⊕ (List Str)))) × (List (Int ⊕ (Str ⊕ (List Str)))))) × Int) (r : (Int ⊕ (Str ⊕ (List Str))) × ((List (Int ⊕ (Str ⊕ (List Str)))) × (List (Int ⊕ (Str ⊕ (List Str)))))) => ([⟨a.1.1, (O_History mg) r.2, some 0⟩] : List Cell)) (fun (r : (Int ⊕ (Str ⊕ (List Str))) × ((List (Int ⊕ (Str ⊕ (List Str)))) × (List (Int ⊕ (Str ⊕ (List Str)))))) => (pSm pInt (pSm pStr (I_Unlike mg))) r.1) (erX mg rsL) (fun (a : (V × ((List (Int ⊕ (Str ⊕ (List Str)))) × (List (Int ⊕ (Str ⊕ (List Str)))))) × Int) => ([⟨a.1.1, (O_History mg) a.1.2, some 0⟩] : List Cell))) := by
  obtain ⟨fI_UnknownStep, tx_UnknownStep⟩ := (C.xs.x "UnknownStep" (by decide +kernel)).tx
  obtain ⟨C_History, fI_History, fdI_History, gC_History, hC_History, hK_History, FI_History, n_History__done, n_History__undone⟩ := C.c_History
  have m_len := C.m_len
  refine fn_XN (A := (fun (a : (V × ((List (Int ⊕ (Str ⊕ (List Str)))) × (List (Int ⊕ (Str ⊕ (List Str)))))) × Int) => ([pV a.1.1, pInt a.2] : List Pd))) (C := (fun (a : (V × ((List (Int ⊕ (Str ⊕ (List Str)))) × (List (Int ⊕ (Str ⊕ (List Str)))))) × Int) => ([⟨a.1.1, (O_History mg) a.1.2, some 0⟩] : List Cell))) (Mf := (fun (a : (V × ((List (Int ⊕ (Str ⊕ (List Str)))) × (List (Int ⊕ (Str ⊕ (List Str)))))) × Int) => M_History_back_to a.1.2 a.2)) (Cr := (fun (a : (V × ((List (Int ⊕ (Str ⊕ (List Str)))) × (List (Int ⊕ (Str ⊕ (List Str)))))) × Int) (r : (Int ⊕ (Str ⊕ (List Str))) × ((List (Int ⊕ (Str ⊕ (List Str)))) × (List (Int ⊕ (Str ⊕ (List Str)))))) => ([⟨a.1.1, (O_History mg) r.2, some 0⟩] : List Cell))) (Cx := (fun (a : (V × ((List (Int ⊕ (Str ⊕ (List Str)))) × (List (Int ⊕ (Str ⊕ (List Str)))))) × Int) => ([⟨a.1.1, (O_History mg) a.1.2, some 0⟩] : List Cell))) FD sc_History_back_to (fun _ => rfl) rfl (fun _ => ⟨rfl, trivial⟩) fun cdv A outer s H E hr Gs ⟨⟨v1, a1⟩, a2⟩ tk => ?_
  exact s_is (s_okE (fun _ _ ok => ok.spl 0 (j := 0) (by rfl) rfl rfl) fun u_done => (s_okE (fun _ _ ok => ok.spl 1 (j := 1) (by rfl) rfl rfl) fun u_undone => (s_T (T := if ((decide (a2 < (0 : Int))) || (decide ((a1.1.length : Int) ≤ a2))) = true then some ((Except.error) (⟨"UnknownStep", [.int a2]⟩ : Er)) else (whL wfuel (fun s175 => if (decide (a2 < (((s175.2).length : Int) - (1 : Int)))) = true then ((popL (s175.2)).bind fun q181 => grd ((s175.1).length < sizeLine) (some (Bo.nx (((s175.1) ++ [q181.1]), q181.2)))).bind (fun o_ => some (some o_)) else some none) ((a1.2, a1.1) : (List (Int ⊕ (Str ⊕ (List Str)))) × (List (Int ⊕ (Str ⊕ (List Str)))))).bind (boK (fun s176 => (atI (s176.2) (-(1 : Int))).bind fun x178 => some (Except.ok (ε := Er) (x178, (s176.2, s176.1)))) (fun e : Empty => nomatch e))) (s_ifT (ins_X (ins_F _)) (t_kd (c := fun (b_ : Unit) => ((decide (a2 < (0 : Int))) || (decide ((a1.1.length : Int) ≤ a2)))) (PW.pt (w_or (t_totV (decide (a2 < (0 : Int))) ((), ()) (fun _ => rfl) (by exact (t_kd (c := fun (b_ : (Unit × Unit)) => (decide (a2 < (0 : Int)))) (t_lt (y_var (p := pInt a2) 1) (fun _ => y_int (i := 0)))))) (w_or1 (t_totV (decide ((a1.1.length : Int) ≤ a2)) ((), ()) (fun _ => rfl) (by exact (t_kd (c := fun (b_ : (Unit × Unit)) => (decide ((a1.1.length : Int) ≤ a2))) (t_ge (y_var (p := pInt a2) 1) (fun _ => x_kd (E := fun (b_ : Unit) => pInt (a1.1.length : Int)) (x_lenL (Ee := (pSm pInt (pSm pStr (I_Unlike mg)))) m_len (x_fldVO (cn := "History") (f := "_done") (ns := ["_done", "_undone"]) (ds := fun _ => [oF pV u_done, oF pV u_undone]) (y := fun _ => u_done) pV 0 2 gC_History hC_History n_History__done (by decide +kernel) (y_var (p := pV v1) 0)) (fun _ => rdO 1))))))))))) (fun (b172 : Unit) => s_T (T := some ((Except.error) (⟨"UnknownStep", [.int a2]⟩ : Er))) (s_ok (fun _ _ ok => ((((ok.out (j := 1) rfl).unspl 0 (j := 2) rfl rfl).out (j := 0) rfl).unspl 1 (j := 2) rfl rfl)) (s_raise (er := fun (b : (Unit × Unit)) => (⟨"UnknownStep", [.int a2]⟩ : Er)) tk ex_X tx_UnknownStep (C.xs.x "UnknownStep" (by decide +kernel)).g C.xs.sup hr (a_cons (x_var (p := pInt a2) 1) (fun _ => a_nil)) (fun _ _ _ _ h => by exact ⟨(show ("UnknownStep" : Str) ∈ rsL from by decide +kernel), h⟩) (fun _ => (by decide +kernel : 1 = (fieldsOf "UnknownStep").length)) (by decide +kernel) (fun _ => (.cons _ (.cons _ (.cons₂ _ (.slnil))))) (fun _ _ _ => trivial)))) fun (b172 : Unit) => s_T (T := (whL wfuel (fun s175 => if (decide (a2 < (((s175.2).length : Int) - (1 : Int)))) = true then ((popL (s175.2)).bind fun q181 => grd ((s175.1).length < sizeLine) (some (Bo.nx (((s175.1) ++ [q181.1]), q181.2)))).bind (fun o_ => some (some o_)) else some none) ((a1.2, a1.1) : (List (Int ⊕ (Str ⊕ (List Str)))) × (List (Int ⊕ (Str ⊕ (List Str)))))).bind (boK (fun s176 => (atI (s176.2) (-(1 : Int))).bind fun x178 => some (Except.ok (ε := Er) (x178, (s176.2, s176.1)))) (fun e : Empty => nomatch e))) (s_while (β := ((Unit × Unit) × Unit)) (st := fun (s_ : (List (Int ⊕ (Str ⊕ (List Str)))) × (List (Int ⊕ (Str ⊕ (List Str))))) => if (decide (a2 < (((s_.2).length : Int) - (1 : Int)))) = true then ((popL (s_.2)).bind fun q181 => grd ((s_.1).length < sizeLine) (some (Bo.nx (((s_.1) ++ [q181.1]), q181.2)))).bind (fun o_ => some (some o_)) else some none) (c := fun (s_ : (List (Int ⊕ (Str ⊕ (List Str)))) × (List (Int ⊕ (Str ⊕ (List Str))))) (b_ : ((Unit × Unit) × Unit)) => (decide (a2 < (((s_.2).length : Int) - (1 : Int))))) (f := fun (s_ : (List (Int ⊕ (Str ⊕ (List Str)))) × (List (Int ⊕ (Str ⊕ (List Str))))) (b_ : ((Unit × Unit) × Unit)) => (popL (s_.2)).bind fun q181 => grd ((s_.1).length < sizeLine) (some (Bo.nx (((s_.1) ++ [q181.1]), q181.2)))) (ι := (fun e : Empty => nomatch e)) (R := (fun (_ : Empty) _ => False)) (passes_of rfl) (fun (s_ : (List (Int ⊕ (Str ⊕ (List Str)))) × (List (Int ⊕ (Str ⊕ (List Str))))) => ([some (pV v1), some (pInt a2)], [⟨u_undone, (oL (pSm pInt (pSm pStr (I_Unlike mg)))) s_.1, some 0⟩, ⟨u_done, (oL (pSm pInt (pSm pStr (I_Unlike mg)))) s_.2, some 0⟩, ⟨v1, (fun (_ : Unit) => oIO mg "History" ["_done", "_undone"] [oF pV u_done, oF pV u_undone]) (), some 0⟩])) ((a1.2, a1.1) : (List (Int ⊕ (Str ⊕ (List Str)))) × (List (Int ⊕ (Str ⊕ (List Str))))) rfl (fun s175 => t_T (t_kd (c := fun (b_ : ((Unit × Unit) × Unit)) => (decide (a2 < (((s175.2).length : Int) - (1 : Int))))) (t_gt (x_kd (E := fun (b_ : (Unit × Unit)) => pInt (((s175.2).length : Int) - (1 : Int))) (x_sub (x_kd (E := fun (b_ : Unit) => pInt ((s175.2).length : Int)) (x_lenL (Ee := (pSm pInt (pSm pStr (I_Unlike mg)))) m_len (x_fldVO (cn := "History") (f := "_done") (ns := ["_done", "_undone"]) (ds := fun _ => [oF pV u_done, oF pV u_undone]) (y := fun _ => u_done) pV 0 2 gC_History hC_History n_History__done (by decide +kernel) (x_var (p := pV v1) 0)) (fun _ => rdO 1))) (fun _ => x_int (i := 1)))) (fun _ => x_var (p := pInt a2) 1))) (by rfl)) (by exact ⟨rfl, rfl, trivial⟩) (List.Sublist.refl _) (fun s175 b177 => s_T (T := (popL (s175.2)).bind fun q181 => grd ((s175.1).length < sizeLine) (some (Bo.nx (((s175.1) ++ [q181.1]), q181.2)))) (s_expr (x_app 0 (x_fldVO (cn := "History") (f := "_undone") (ns := ["_done", "_undone"]) (ds := fun _ => [oF pV u_done, oF pV u_undone]) (y := fun _ => u_undone) pV 1 2 gC_History hC_History n_History__undone (by decide +kernel) (x_var (p := pV v1) 0)) (fun _ => x_kd (E := fun (b_ : (Unit × ((Int ⊕ (Str ⊕ (List Str))) × List (Int ⊕ (Str ⊕ (List Str)))))) => (pSm pInt (pSm pStr (I_Unlike mg))) b_.2.1) (x_popF (Ee := (pSm pInt (pSm pStr (I_Unlike mg)))) 1 (f_var (D := (oL (pSm pInt (pSm pStr (I_Unlike mg))))) (x_fldVO (cn := "History") (f := "_done") (ns := ["_done", "_undone"]) (ds := fun _ => [oF pV u_done, oF pV u_undone]) (y := fun _ => u_done) pV 0 2 gC_History hC_History n_History__done (by decide +kernel) (x_var (p := pV v1) 0))))) (fun _ => rfl) (fun _ _ => rfl)) fun (b182 : (Unit × (Unit × ((Int ⊕ (Str ⊕ (List Str))) × List (Int ⊕ (Str ⊕ (List Str))))))) => s_endB (((s175.1) ++ [b182.2.2.1]), b182.2.2.2) (by exact ⟨rfl, rfl, trivial⟩) (List.Sublist.refl _))) (fun s176 => s_T (T := (atI (s176.2) (-(1 : Int))).bind fun x178 => some (Except.ok (ε := Er) (x178, (s176.2, s176.1)))) (s_ret (P := (fun (r : (Int ⊕ (Str ⊕ (List Str))) × ((List (Int ⊕ (Str ⊕ (List Str)))) × (List (Int ⊕ (Str ⊕ (List Str)))))) => [⟨v1, (O_History mg) r.2, some 0⟩])) (Rp := (fun (r : (Int ⊕ (Str ⊕ (List Str))) × ((List (Int ⊕ (Str ⊕ (List Str)))) × (List (Int ⊕ (Str ⊕ (List Str)))))) => (pSm pInt (pSm pStr (I_Unlike mg))) r.1)) (ι := (Except.ok (ε := Er))) (rv := fun (b : ((Unit × Unit) × (Int ⊕ (Str ⊕ (List Str))))) => (b.2, (s176.2, s176.1))) (fun _ _ _ h => by exact h) (x_ok (x_kd (x_kd (E := fun (b_ : ((Unit × Unit) × (Int ⊕ (Str ⊕ (List Str))))) => (pSm pInt (pSm pStr (I_Unlike mg))) b_.2) (x_ixL (Ee := (pSm pInt (pSm pStr (I_Unlike mg)))) (x_fldVO (cn := "History") (f := "_done") (ns := ["_done", "_undone"]) (ds := fun _ => [oF pV u_done, oF pV u_undone]) (y := fun _ => u_done) pV 0 2 gC_History hC_History n_History__done (by decide +kernel) (x_var (p := pV v1) 0)) (fun _ => x_kd (E := fun (b_ : Unit) => pInt (-(1 : Int))) (x_neg (x_int (i := 1)))) (fun _ _ => rdO 1)))) fun _ _ _ ok => ((((ok.out (j := 1) rfl).unspl 0 (j := 2) rfl rfl).out (j := 0) rfl).unspl 1 (j := 2) rfl rfl)) (fun _ => .cons _ (.cons _ (.cons₂ _ (.slnil)))))) (fun _ r => nomatch r)))))) (by unfold M_History_back_to; rfl)
end
end My
end
section
set_option maxHeartbeats 4000000
set_option synthInstance.maxSize 2000
namespace My
open PySem PySem.Spec PyProof.Rows L2 L3
section
variable {P : Program} {w : World} {K : PySem.W.Frag} {mg : Str → Option Value} {base : Heap}
theorem sc_Unlike___init__ : FnScope ["self", "names"] ["self", "names"] (defScope (mth 32 0)) := ⟨rfl, rfl, rfl, by decide +kernel, rfl, by decide +kernel, by decide +kernel⟩
theorem ok_Unlike___init__ {f : Addr} {fd : FuncData} (C : Ev P K mg) (FD : FunD K "__init__" "Unlike.__init__" (defArgs (mth 32 0)) (defBody (mth 32 0)) (defScope (mth 32 0)) [] [] f fd) : FnOk P w K mg base CX0 2 f fd ["self", "names"] (Sp_I mg "Unlike" (fun (a : (List Str)) => ([(pL pStr) a] : List Pd)) (fun (a : (List Str)) => M_Unlike___init__ a) ["names"] (fun (z_ : List Str) => [(pTN pStr) z_])) := by
  obtain ⟨C_Unlike, fI_Unlike, fdI_Unlike, gC_Unlike, hC_Unlike, hK_Unlike, FI_Unlike, n_Unlike_names⟩ := C.c_Unlike
  obtain ⟨f_checked_names, fd_checked_names, F_checked_names, g_checked_names⟩ := C.f_checked_names
  have k_checked_names := ok_checked_names (P := P) (w := w) (base := base) C F_checked_names
  have b_checked_names : Binds K fd_checked_names ["names"] [] := F_checked_names.bindsN fun _ _ _ _ _ _ us hl => match us, hl with | [_], _ => rfl
  refine fn_I (A := (fun (a : (List Str)) => ([(pL pStr) a] : List Pd))) (Mf := (fun (a : (List Str)) => M_Unlike___init__ a)) (ns := ["names"]) (R := (fun (z_ : List Str) => [(pTN pStr) z_])) FD sc_Unlike___init__ (fun _ => rfl) rfl fun cdv A outer s H E hr x0 a1 => ?_
  exact s_is (s_T (T := (M_checked_names a1).bind fun r183 => some r183) (s_fld (cn := "Unlike") (ns := []) (ps := fun _ _ => []) 0 gC_Unlike hC_Unlike n_Unlike_names (by decide +kernel) (by decide) (x_kd (E := fun (b_ : (Unit × (List Str))) => (pTN pStr) b_.2) (x_F_f (kk := 1) (E1 := (pL pStr)) k_checked_names (hr.mono (by decide)) g_checked_names F_checked_names.kp b_checked_names (x_var (p := (pL pStr) a1) 1))) (fun _ => x_var (p := pV (.ref x0)) 0) (fun _ _ => rfl) (fun _ _ => rfl) fun (b184 : (Unit × (List Str))) _ => s_endI b184.2 (List.Sublist.refl _))) (by unfold M_Unlike___init__; rfl)
end
end My
end
section
set_option maxHeartbeats 4000000
set_option synthInstance.maxSize 2000
namespace My
open PySem PySem.Spec PyProof.Rows L2 L3
section
variable {P : Program} {w : World} {K : PySem.W.Frag} {mg : Str → Option Value} {base : Heap}
theorem sc_l_state : FnScope ["_law_stream_here", "_law_way"] ["_law_stream_here"] (defScope (top 37)) := ⟨rfl, rfl, rfl, by decide +kernel, rfl, by decide +kernel, by decide +kernel⟩
theorem ok_l_state {f : Addr} {fd : FuncData} (C : Ev P K mg) (FD : FnP K "_law_state" (top 37) f fd)   : FnOk P w K mg base CX0 4 f fd ["_law_stream_here"] (Sp_O_f (oL pInt) M_l_state (pSm pInt (pSm pStr (I_Unlike mg)))) := by
  obtain ⟨C_Unlike, fI_Unlike, fdI_Unlike, gC_Unlike, hC_Unlike, hK_Unlike, FI_Unlike, n_Unlike_names⟩ := C.c_Unlike
  have m_str := C.m_str
  obtain ⟨f_l_next, fd_l_next, F_l_next, g_l_next⟩ := C.f_l_next
  have k_l_next := ok_l_next (P := P) (w := w) (base := base) C F_l_next
  have b_l_next : Binds K fd_l_next ["_law_stream_here", "_law_size"] [] := F_l_next.bindsN fun _ _ _ _ _ _ us hl => match us, hl with | [_, _], _ => rfl
  have k_Unlike___init__ := ok_Unlike___init__ (P := P) (w := w) (base := base) C FI_Unlike
  have b_Unlike___init__ : Binds K fdI_Unlike ["self", "names"] [] := FI_Unlike.bindsN fun _ _ _ _ _ _ us hl => match us, hl with | [_, _], _ => rfl
  refine fn_O_f FD sc_l_state rfl fun cdv A outer s H E hr v1 G1 a1 => ?_
  exact s_is (s_T (T := (M_l_next a1 (5 : Int)).bind fun r185 => (some (r185.1 : Int)).bind fun x186 => if (decide (x186 = (4 : Int))) = true then (M_l_next (r185.2) (100 : Int)).bind fun r189 => grd ((r189.1).natAbs.log2 < 1920) (grd (("b" : Str).length + (Str.ofString (toString (r189.1))).length ≤ sizeLine) ((M_Unlike___init__ ([("a" : Str), (("b" : Str) ++ (Str.ofString (toString (r189.1))))])).bind fun r190 => some ((.inr (.inr r190 : (Str ⊕ (List Str))) : (Int ⊕ (Str ⊕ (List Str)))), r189.2))) else if (decide (x186 = (0 : Int))) = true then (M_l_next (r185.2) (5 : Int)).bind fun r192 => some ((.inl ((r192.1) - (2 : Int)) : (Int ⊕ (Str ⊕ (List Str)))), r192.2) else if (decide (x186 = (1 : Int))) = true then (M_l_next (r185.2) (6 : Int)).bind fun r194 => (atI ([("" : Str), ("a" : Str), ("0" : Str), ("state" : Str), ("b7" : Str), ("-1" : Str)]) (r194.1)).bind fun x195 => some ((.inr (.inl x195 : (Str ⊕ (List Str))) : (Int ⊕ (Str ⊕ (List Str)))), r194.2) else if (decide (x186 = (2 : Int))) = true then (M_l_next (r185.2) (1000 : Int)).bind fun r197 => grd ((sm ((r197.1) - (500 : Int)) || sm ((10 : Int) ^ (9 : Int).toNat)) = true) (some ((.inl (((r197.1) - (500 : Int)) * ((10 : Int) ^ (9 : Int).toNat)) : (Int ⊕ (Str ⊕ (List Str)))), r197.2)) else (M_l_next (r185.2) (100 : Int)).bind fun r198 => grd ((r198.1).natAbs.log2 < 1920) (grd (("s" : Str).length + (Str.ofString (toString (r198.1))).length ≤ sizeLine) (some ((.inr (.inl (("s" : Str) ++ (Str.ofString (toString (r198.1)))) : (Str ⊕ (List Str))) : (Int ⊕ (Str ⊕ (List Str)))), r198.2)))) (s_let (i := 1) pInt sc_l_state.nd (x_kd (E := fun (b_ : ((Unit × Unit) × (Int × (List Int)))) => pInt b_.2.1) (x_OF_f (kk := 1) (E1 := (oL pInt)) (E2 := pInt) (s1 := fun (_ : Unit) (_ : Unit) => a1) (v1 := v1) k_l_next (hr.mono (by decide)) g_l_next F_l_next.kp b_l_next 0 (x_var (p := pV v1) 0) (fun _ => x_int (i := 5)) (fun _ _ => rfl))) fun (b187 : ((Unit × Unit) × (Int × (List Int)))) x186 => s_T (T := if (decide (x186 = (4 : Int))) = true then (M_l_next (b187.2.2) (100 : Int)).bind fun r189 => grd ((r189.1).natAbs.log2 < 1920) (grd (("b" : Str).length + (Str.ofString (toString (r189.1))).length ≤ sizeLine) ((M_Unlike___init__ ([("a" : Str), (("b" : Str) ++ (Str.ofString (toString (r189.1))))])).bind fun r190 => some ((.inr (.inr r190 : (Str ⊕ (List Str))) : (Int ⊕ (Str ⊕ (List Str)))), r189.2))) else if (decide (x186 = (0 : Int))) = true then (M_l_next (b187.2.2) (5 : Int)).bind fun r192 => some ((.inl ((r192.1) - (2 : Int)) : (Int ⊕ (Str ⊕ (List Str)))), r192.2) else if (decide (x186 = (1 : Int))) = true then (M_l_next (b187.2.2) (6 : Int)).bind fun r194 => (atI ([("" : Str), ("a" : Str), ("0" : Str), ("state" : Str), ("b7" : Str), ("-1" : Str)]) (r194.1)).bind fun x195 => some ((.inr (.inl x195 : (Str ⊕ (List Str))) : (Int ⊕ (Str ⊕ (List Str)))), r194.2) else if (decide (x186 = (2 : Int))) = true then (M_l_next (b187.2.2) (1000 : Int)).bind fun r197 => grd ((sm ((r197.1) - (500 : Int)) || sm ((10 : Int) ^ (9 : Int).toNat)) = true) (some ((.inl (((r197.1) - (500 : Int)) * ((10 : Int) ^ (9 : Int).toNat)) : (Int ⊕ (Str ⊕ (List Str)))), r197.2)) else (M_l_next (b187.2.2) (100 : Int)).bind fun r198 => grd ((r198.1).natAbs.log2 < 1920) (grd (("s" : Str).length + (Str.ofString (toString (r198.1))).length ≤ sizeLine) (some ((.inr (.inl (("s" : Str) ++ (Str.ofString (toString (r198.1)))) : (Str ⊕ (List Str))) : (Int ⊕ (Str ⊕ (List Str)))), r198.2)))) (s_ifT (ins_F _) (t_kd (c := fun (b_ : (Unit × Unit)) => (decide (x186 = (4 : Int)))) (t_eqI (x_var (p := pInt x186) 1) (fun _ => x_int (i := 4)))) (fun (b188 : (Unit × Unit)) => s_T (T := (M_l_next (b187.2.2) (100 : Int)).bind fun r189 => grd ((r189.1).natAbs.log2 < 1920) (grd (("b" : Str).length + (Str.ofString (toString (r189.1))).length ≤ sizeLine) ((M_Unlike___init__ ([("a" : Str), (("b" : Str) ++ (Str.ofString (toString (r189.1))))])).bind fun r190 => some ((.inr (.inr r190 : (Str ⊕ (List Str))) : (Int ⊕ (Str ⊕ (List Str)))), r189.2)))) (s_ret (P := (fun (r : (Int ⊕ (Str ⊕ (List Str))) × (List Int)) => [⟨v1, (oL pInt) r.2, some 0⟩])) (Rp := (fun (r : (Int ⊕ (Str ⊕ (List Str))) × (List Int)) => (pSm pInt (pSm pStr (I_Unlike mg))) r.1)) (ι := id) (rv := fun (b : (((Unit × ((Unit × ((Unit × Unit) × (Int × (List Int)))) × Unit)) × Unit) × (List Str))) => ((.inr (.inr b.2 : (Str ⊕ (List Str))) : (Int ⊕ (Str ⊕ (List Str)))), b.1.1.2.1.2.2.2)) (fun _ _ _ h => by exact h) (x_kd (co_inr (E := pInt) (G := (pSm pStr (I_Unlike mg))) (co_inr (E := pStr) (G := (I_Unlike mg)) (x_kd (E := fun (b_ : (((Unit × ((Unit × ((Unit × Unit) × (Int × (List Int)))) × Unit)) × Unit) × (List Str))) => (I_Unlike mg) b_.2) (x_frz (o_kd (E := fun (b_ : (((Unit × ((Unit × ((Unit × Unit) × (Int × (List Int)))) × Unit)) × Unit) × (List Str))) => (O_Unlike mg) b_.2) (x_make (kk := 2) (cn := "Unlike") (xs := fun (b : ((Unit × ((Unit × ((Unit × Unit) × (Int × (List Int)))) × Unit)) × Unit)) => [("a" : Str), (("b" : Str) ++ (Str.ofString (toString (b.1.2.1.2.2.1))))]) (D := fun b => O_Unlike mg b.2) hK_Unlike k_Unlike___init__ (hr.mono (by decide)) gC_Unlike b_Unlike___init__ (a_cons (x_kd (E := fun (b_ : (Unit × ((Unit × ((Unit × Unit) × (Int × (List Int)))) × Unit))) => (pL pStr) ([("a" : Str), (("b" : Str) ++ (Str.ofString (toString (b_.2.1.2.2.1))))])) (x_frz (o_kd (E := fun (b_ : (Unit × ((Unit × ((Unit × Unit) × (Int × (List Int)))) × Unit))) => (oL pStr) ([("a" : Str), (("b" : Str) ++ (Str.ofString (toString (b_.2.1.2.2.1))))])) (x_disp pStr (fun _ => [_, _]) (a_cons x_str (fun _ => a_cons (x_kd (E := fun (b_ : (Unit × ((Unit × Unit) × (Int × (List Int))))) => pStr (("b" : Str) ++ (Str.ofString (toString (b_.2.2.1))))) (x_addS x_str (fun _ => x_kd (E := fun (b_ : ((Unit × Unit) × (Int × (List Int)))) => pStr (Str.ofString (toString (b_.2.1)))) (x_strI m_str (x_kd (E := fun (b_ : ((Unit × Unit) × (Int × (List Int)))) => pInt b_.2.1) (x_OF_f (kk := 1) (E1 := (oL pInt)) (E2 := pInt) (s1 := fun (_ : Unit) (_ : Unit) => b187.2.2) (v1 := v1) k_l_next (hr.mono (by decide)) g_l_next F_l_next.kp b_l_next 0 (x_var (p := pV v1) 0) (fun _ => x_int (i := 100)) (fun _ _ => rfl))))))) (fun _ => a_nil))) (fun _ => rfl) (fun _ => by simp))))) (fun _ => a_nil))))))))) (fun _ => List.Sublist.refl _))) fun (b188 : (Unit × Unit)) => s_T (T := if (decide (x186 = (0 : Int))) = true then (M_l_next (b187.2.2) (5 : Int)).bind fun r192 => some ((.inl ((r192.1) - (2 : Int)) : (Int ⊕ (Str ⊕ (List Str)))), r192.2) else if (decide (x186 = (1 : Int))) = true then (M_l_next (b187.2.2) (6 : Int)).bind fun r194 => (atI ([("" : Str), ("a" : Str), ("0" : Str), ("state" : Str), ("b7" : Str), ("-1" : Str)]) (r194.1)).bind fun x195 => some ((.inr (.inl x195 : (Str ⊕ (List Str))) : (Int ⊕ (Str ⊕ (List Str)))), r194.2) else if (decide (x186 = (2 : Int))) = true then (M_l_next (b187.2.2) (1000 : Int)).bind fun r197 => grd ((sm ((r197.1) - (500 : Int)) || sm ((10 : Int) ^ (9 : Int).toNat)) = true) (some ((.inl (((r197.1) - (500 : Int)) * ((10 : Int) ^ (9 : Int).toNat)) : (Int ⊕ (Str ⊕ (List Str)))), r197.2)) else (M_l_next (b187.2.2) (100 : Int)).bind fun r198 => grd ((r198.1).natAbs.log2 < 1920) (grd (("s" : Str).length + (Str.ofString (toString (r198.1))).length ≤ sizeLine) (some ((.inr (.inl (("s" : Str) ++ (Str.ofString (toString (r198.1)))) : (Str ⊕ (List Str))) : (Int ⊕ (Str ⊕ (List Str)))), r198.2)))) (s_ifT (ins_F _) (t_kd (c := fun (b_ : (Unit × Unit)) => (decide (x186 = (0 : Int)))) (t_eqI (x_var (p := pInt x186) 1) (fun _ => x_int (i := 0)))) (fun (b191 : (Unit × Unit)) => s_T (T := (M_l_next (b187.2.2) (5 : Int)).bind fun r192 => some ((.inl ((r192.1) - (2 : Int)) : (Int ⊕ (Str ⊕ (List Str)))), r192.2)) (s_ret (P := (fun (r : (Int ⊕ (Str ⊕ (List Str))) × (List Int)) => [⟨v1, (oL pInt) r.2, some 0⟩])) (Rp := (fun (r : (Int ⊕ (Str ⊕ (List Str))) × (List Int)) => (pSm pInt (pSm pStr (I_Unlike mg))) r.1)) (ι := id) (rv := fun (b : (((Unit × Unit) × (Int × (List Int))) × Unit)) => ((.inl ((b.1.2.1) - (2 : Int)) : (Int ⊕ (Str ⊕ (List Str)))), b.1.2.2)) (fun _ _ _ h => by exact h) (x_kd (co_inl (E := pInt) (G := (pSm pStr (I_Unlike mg))) (x_kd (E := fun (b_ : (((Unit × Unit) × (Int × (List Int))) × Unit)) => pInt ((b_.1.2.1) - (2 : Int))) (x_sub (x_kd (E := fun (b_ : ((Unit × Unit) × (Int × (List Int)))) => pInt b_.2.1) (x_OF_f (kk := 1) (E1 := (oL pInt)) (E2 := pInt) (s1 := fun (_ : Unit) (_ : Unit) => b187.2.2) (v1 := v1) k_l_next (hr.mono (by decide)) g_l_next F_l_next.kp b_l_next 0 (x_var (p := pV v1) 0) (fun _ => x_int (i := 5)) (fun _ _ => rfl))) (fun _ => x_int (i := 2)))))) (fun _ => List.Sublist.refl _))) fun (b191 : (Unit × Unit)) => s_T (T := if (decide (x186 = (1 : Int))) = true then (M_l_next (b187.2.2) (6 : Int)).bind fun r194 => (atI ([("" : Str), ("a" : Str), ("0" : Str), ("state" : Str), ("b7" : Str), ("-1" : Str)]) (r194.1)).bind fun x195 => some ((.inr (.inl x195 : (Str ⊕ (List Str))) : (Int ⊕ (Str ⊕ (List Str)))), r194.2) else if (decide (x186 = (2 : Int))) = true then (M_l_next (b187.2.2) (1000 : Int)).bind fun r197 => grd ((sm ((r197.1) - (500 : Int)) || sm ((10 : Int) ^ (9 : Int).toNat)) = true) (some ((.inl (((r197.1) - (500 : Int)) * ((10 : Int) ^ (9 : Int).toNat)) : (Int ⊕ (Str ⊕ (List Str)))), r197.2)) else (M_l_next (b187.2.2) (100 : Int)).bind fun r198 => grd ((r198.1).natAbs.log2 < 1920) (grd (("s" : Str).length + (Str.ofString (toString (r198.1))).length ≤ sizeLine) (some ((.inr (.inl (("s" : Str) ++ (Str.ofString (toString (r198.1)))) : (Str ⊕ (List Str))) : (Int ⊕ (Str ⊕ (List Str)))), r198.2)))) (s_ifT (ins_F _) (t_kd (c := fun (b_ : (Unit × Unit)) => (decide (x186 = (1 : Int)))) (t_eqI (x_var (p := pInt x186) 1) (fun _ => x_int (i := 1)))) (fun (b193 : (Unit × Unit)) => s_T (T := (M_l_next (b187.2.2) (6 : Int)).bind fun r194 => (atI ([("" : Str), ("a" : Str), ("0" : Str), ("state" : Str), ("b7" : Str), ("-1" : Str)]) (r194.1)).bind fun x195 => some ((.inr (.inl x195 : (Str ⊕ (List Str))) : (Int ⊕ (Str ⊕ (List Str)))), r194.2)) (s_ret (P := (fun (r : (Int ⊕ (Str ⊕ (List Str))) × (List Int)) => [⟨v1, (oL pInt) r.2, some 0⟩])) (Rp := (fun (r : (Int ⊕ (Str ⊕ (List Str))) × (List Int)) => (pSm pInt (pSm pStr (I_Unlike mg))) r.1)) (ι := id) (rv := fun (b : (((Unit × (Unit × (Unit × (Unit × (Unit × (Unit × Unit)))))) × ((Unit × Unit) × (Int × (List Int)))) × Str)) => ((.inr (.inl b.2 : (Str ⊕ (List Str))) : (Int ⊕ (Str ⊕ (List Str)))), b.1.2.2.2)) (fun _ _ _ h => by exact h) (x_kd (co_inr (E := pInt) (G := (pSm pStr (I_Unlike mg))) (co_inl (E := pStr) (G := (I_Unlike mg)) (x_kd (E := fun (b_ : (((Unit × (Unit × (Unit × (Unit × (Unit × (Unit × Unit)))))) × ((Unit × Unit) × (Int × (List Int)))) × Str)) => pStr b_.2) (x_ixL (Ee := pStr) (x_kd (E := fun (b_ : (Unit × (Unit × (Unit × (Unit × (Unit × (Unit × Unit))))))) => (pL pStr) ([("" : Str), ("a" : Str), ("0" : Str), ("state" : Str), ("b7" : Str), ("-1" : Str)])) (x_frz (o_kd (E := fun (b_ : (Unit × (Unit × (Unit × (Unit × (Unit × (Unit × Unit))))))) => (oL pStr) ([("" : Str), ("a" : Str), ("0" : Str), ("state" : Str), ("b7" : Str), ("-1" : Str)])) (x_disp pStr (fun _ => [_, _, _, _, _, _]) (a_cons x_str (fun _ => a_cons x_str (fun _ => a_cons x_str (fun _ => a_cons x_str (fun _ => a_cons x_str (fun _ => a_cons x_str (fun _ => a_nil))))))) (fun _ => rfl) (fun _ => by simp))))) (fun _ => x_kd (E := fun (b_ : ((Unit × Unit) × (Int × (List Int)))) => pInt b_.2.1) (x_OF_f (kk := 1) (E1 := (oL pInt)) (E2 := pInt) (s1 := fun (_ : Unit) (_ : Unit) => b187.2.2) (v1 := v1) k_l_next (hr.mono (by decide)) g_l_next F_l_next.kp b_l_next 0 (x_var (p := pV v1) 0) (fun _ => x_int (i := 6)) (fun _ _ => rfl))) (fun _ _ => rdF)))))) (fun _ => List.Sublist.refl _))) fun (b193 : (Unit × Unit)) => s_T (T := if (decide (x186 = (2 : Int))) = true then (M_l_next (b187.2.2) (1000 : Int)).bind fun r197 => grd ((sm ((r197.1) - (500 : Int)) || sm ((10 : Int) ^ (9 : Int).toNat)) = true) (some ((.inl (((r197.1) - (500 : Int)) * ((10 : Int) ^ (9 : Int).toNat)) : (Int ⊕ (Str ⊕ (List Str)))), r197.2)) else (M_l_next (b187.2.2) (100 : Int)).bind fun r198 => grd ((r198.1).natAbs.log2 < 1920) (grd (("s" : Str).length + (Str.ofString (toString (r198.1))).length ≤ sizeLine) (some ((.inr (.inl (("s" : Str) ++ (Str.ofString (toString (r198.1)))) : (Str ⊕ (List Str))) : (Int ⊕ (Str ⊕ (List Str)))), r198.2)))) (s_ifT (ins_F _) (t_kd (c := fun (b_ : (Unit × Unit)) => (decide (x186 = (2 : Int)))) (t_eqI (x_var (p := pInt x186) 1) (fun _ => x_int (i := 2)))) (fun (b196 : (Unit × Unit)) => s_T (T := (M_l_next (b187.2.2) (1000 : Int)).bind fun r197 => grd ((sm ((r197.1) - (500 : Int)) || sm ((10 : Int) ^ (9 : Int).toNat)) = true) (some ((.inl (((r197.1) - (500 : Int)) * ((10 : Int) ^ (9 : Int).toNat)) : (Int ⊕ (Str ⊕ (List Str)))), r197.2))) (s_ret (P := (fun (r : (Int ⊕ (Str ⊕ (List Str))) × (List Int)) => [⟨v1, (oL pInt) r.2, some 0⟩])) (Rp := (fun (r : (Int ⊕ (Str ⊕ (List Str))) × (List Int)) => (pSm pInt (pSm pStr (I_Unlike mg))) r.1)) (ι := id) (rv := fun (b : ((((Unit × Unit) × (Int × (List Int))) × Unit) × (Unit × Unit))) => ((.inl (((b.1.1.2.1) - (500 : Int)) * ((10 : Int) ^ (9 : Int).toNat)) : (Int ⊕ (Str ⊕ (List Str)))), b.1.1.2.2)) (fun _ _ _ h => by exact h) (x_kd (co_inl (E := pInt) (G := (pSm pStr (I_Unlike mg))) (x_kd (E := fun (b_ : ((((Unit × Unit) × (Int × (List Int))) × Unit) × (Unit × Unit))) => pInt (((b_.1.1.2.1) - (500 : Int)) * ((10 : Int) ^ (9 : Int).toNat))) (x_mul (x_kd (E := fun (b_ : (((Unit × Unit) × (Int × (List Int))) × Unit)) => pInt ((b_.1.2.1) - (500 : Int))) (x_sub (x_kd (E := fun (b_ : ((Unit × Unit) × (Int × (List Int)))) => pInt b_.2.1) (x_OF_f (kk := 1) (E1 := (oL pInt)) (E2 := pInt) (s1 := fun (_ : Unit) (_ : Unit) => b187.2.2) (v1 := v1) k_l_next (hr.mono (by decide)) g_l_next F_l_next.kp b_l_next 0 (x_var (p := pV v1) 0) (fun _ => x_int (i := 1000)) (fun _ _ => rfl))) (fun _ => x_int (i := 500)))) (fun _ => x_kd (E := fun (b_ : (Unit × Unit)) => pInt ((10 : Int) ^ (9 : Int).toNat)) (x_pow (x_int (i := 10)) (fun _ => x_int (i := 9)) (fun _ _ => by decide))))))) (fun _ => List.Sublist.refl _))) fun (b196 : (Unit × Unit)) => s_T (T := (M_l_next (b187.2.2) (100 : Int)).bind fun r198 => grd ((r198.1).natAbs.log2 < 1920) (grd (("s" : Str).length + (Str.ofString (toString (r198.1))).length ≤ sizeLine) (some ((.inr (.inl (("s" : Str) ++ (Str.ofString (toString (r198.1)))) : (Str ⊕ (List Str))) : (Int ⊕ (Str ⊕ (List Str)))), r198.2)))) (s_ret (P := (fun (r : (Int ⊕ (Str ⊕ (List Str))) × (List Int)) => [⟨v1, (oL pInt) r.2, some 0⟩])) (Rp := (fun (r : (Int ⊕ (Str ⊕ (List Str))) × (List Int)) => (pSm pInt (pSm pStr (I_Unlike mg))) r.1)) (ι := id) (rv := fun (b : (Unit × ((Unit × Unit) × (Int × (List Int))))) => ((.inr (.inl (("s" : Str) ++ (Str.ofString (toString (b.2.2.1)))) : (Str ⊕ (List Str))) : (Int ⊕ (Str ⊕ (List Str)))), b.2.2.2)) (fun _ _ _ h => by exact h) (x_kd (co_inr (E := pInt) (G := (pSm pStr (I_Unlike mg))) (co_inl (E := pStr) (G := (I_Unlike mg)) (x_kd (E := fun (b_ : (Unit × ((Unit × Unit) × (Int × (List Int))))) => pStr (("s" : Str) ++ (Str.ofString (toString (b_.2.2.1))))) (x_addS x_str (fun _ => x_kd (E := fun (b_ : ((Unit × Unit) × (Int × (List Int)))) => pStr (Str.ofString (toString (b_.2.1)))) (x_strI m_str (x_kd (E := fun (b_ : ((Unit × Unit) × (Int × (List Int)))) => pInt b_.2.1) (x_OF_f (kk := 1) (E1 := (oL pInt)) (E2 := pInt) (s1 := fun (_ : Unit) (_ : Unit) => b187.2.2) (v1 := v1) k_l_next (hr.mono (by decide)) g_l_next F_l_next.kp b_l_next 0 (x_var (p := pV v1) 0) (fun _ => x_int (i := 100)) (fun _ _ => rfl)))))))))) (fun _ => List.Sublist.refl _)))))))) (by unfold M_l_state; rfl)
end
end My
end
section
set_option maxHeartbeats 4000000
set_option synthInstance.maxSize 2000
namespace My
open PySem PySem.Spec PyProof.Rows L2 L3
section
variable {P : Program} {w : World} {K : PySem.W.Frag} {mg : Str → Option Value} {base : Heap}
theorem sc_l_looks : FnScope ["_law_history", "_law_before", "_law_after", "_law_turn"] ["_law_history", "_law_before", "_law_after"] (defScope (top 39)) := ⟨rfl, rfl, rfl, by decide +kernel, rfl, by decide +kernel, by decide +kernel⟩
theorem ok_l_looks {f : Addr} {fd : FuncData} (C : Ev P K mg) (FD : FnP K "_law_looks" (top 39) f fd)   : FnOk P w K mg base CX0 3 f fd ["_law_history", "_law_before", "_law_after"] (Sp_FFF_f (I_History mg) (pL (pSm pInt (pSm pStr (I_Unlike mg)))) (pL (pSm pInt (pSm pStr (I_Unlike mg)))) M_l_looks pBl) := by
  have m_len := C.m_len
  have m_range := C.m_range
  obtain ⟨f_l_same_state, fd_l_same_state, F_l_same_state, g_l_same_state⟩ := C.f_l_same_state
  have k_l_same_state := ok_l_same_state (P := P) (w := w) (base := base) C F_l_same_state
  have b_l_same_state : Binds K fd_l_same_state ["_law_actual", "_law_due"] [] := F_l_same_state.bindsN fun _ _ _ _ _ _ us hl => match us, hl with | [_, _], _ => rfl
  obtain ⟨c_History_state, p_History_state, f_History_state, fd_History_state, gc_History_state, hc_History_state, hp_History_state, F_History_state⟩ := C.f_History_state
  have k_History_state := ok_History_state (P := P) (w := w) (base := base) C F_History_state
  have b_History_state : Binds K fd_History_state ["self"] [] := F_History_state.bindsN fun _ _ _ _ _ _ us hl => match us, hl with | [_], _ => rfl
  obtain ⟨f_l_is_integer, fd_l_is_integer, F_l_is_integer, g_l_is_integer⟩ := C.f_l_is_integer
  have k_l_is_integer := ok_l_is_integer (P := P) (w := w) (base := base) C F_l_is_integer
  have b_l_is_integer : Binds K fd_l_is_integer ["_law_actual"] [] := F_l_is_integer.bindsN fun _ _ _ _ _ _ us hl => match us, hl with | [_], _ => rfl
  obtain ⟨c_History_steps, p_History_steps, f_History_steps, fd_History_steps, gc_History_steps, hc_History_steps, hp_History_steps, F_History_steps⟩ := C.f_History_steps
  have k_History_steps := ok_History_steps (P := P) (w := w) (base := base) C F_History_steps
  have b_History_steps : Binds K fd_History_steps ["self"] [] := F_History_steps.bindsN fun _ _ _ _ _ _ us hl => match us, hl with | [_], _ => rfl
  obtain ⟨c_History_undone, p_History_undone, f_History_undone, fd_History_undone, gc_History_undone, hc_History_undone, hp_History_undone, F_History_undone⟩ := C.f_History_undone
  have k_History_undone := ok_History_undone (P := P) (w := w) (base := base) C F_History_undone
  have b_History_undone : Binds K fd_History_undone ["self"] [] := F_History_undone.bindsN fun _ _ _ _ _ _ us hl => match us, hl with | [_], _ => rfl
  refine fn_FFF_f FD sc_l_looks rfl fun cdv A outer s H E hr  a1 a2 a3 => ?_
  exact s_is (s_T (T := grd (rg (2 : Int) = true) ((forL (rngL 0 (2 : Int).toNat) (() : Unit) fun x201 s200 => (M_History_state a1).bind fun r203 => (atI a2 (-(1 : Int))).bind fun x204 => (M_l_same_state (some r203) x204).bind fun r205 => if (!r205) = true then inB (some (Tm.rt false)) else (M_History_steps a1).bind fun r207 => (M_l_is_integer r207).bind fun r208 => ((if (!r208) = true then some (true, ()) else (M_History_steps a1).bind fun r211 => some ((!decide (r211 = ((a2.length : Int) - (1 : Int)))), ()))).bind fun c212 => if c212.1 = true then inB (some (Tm.rt false)) else (M_History_undone a1).bind fun r214 => (M_l_is_integer r214).bind fun r215 => ((if (!r215) = true then some (true, ()) else (M_History_undone a1).bind fun r218 => some ((!decide (r218 = (a3.length : Int))), ()))).bind fun c219 => if c219.1 = true then inB (some (Tm.rt false)) else some (Bo.nx ())).bind (boK (fun s202 => some true) id))) (s_for PassesOwn.never (fun (b_ : Unit) (s_ : Unit) => ([some ((I_History mg) a1), some ((pL (pSm pInt (pSm pStr (I_Unlike mg)))) a2), some ((pL (pSm pInt (pSm pStr (I_Unlike mg)))) a3), none], [])) (fun (b_ : Unit) => ()) (ι := id) (R := (RF ⟨H, []⟩ (fun _ => []) pBl)) (i_rng1 m_range (x_int (i := 2))) (pg_name (i := 3) sc_l_looks.nd rfl (by first | exact .inl rfl | exact .inr rfl)) (tg_name 3) (fun _ => (by exact ⟨rfl, rfl, rfl, trivial⟩)) (fun _ => List.Sublist.refl _) (fun b199 x201 s200 => s_T (T := (M_History_state a1).bind fun r203 => (atI a2 (-(1 : Int))).bind fun x204 => (M_l_same_state (some r203) x204).bind fun r205 => if (!r205) = true then inB (some (Tm.rt false)) else (M_History_steps a1).bind fun r207 => (M_l_is_integer r207).bind fun r208 => ((if (!r208) = true then some (true, ()) else (M_History_steps a1).bind fun r211 => some ((!decide (r211 = ((a2.length : Int) - (1 : Int)))), ()))).bind fun c212 => if c212.1 = true then inB (some (Tm.rt false)) else (M_History_undone a1).bind fun r214 => (M_l_is_integer r214).bind fun r215 => ((if (!r215) = true then some (true, ()) else (M_History_undone a1).bind fun r218 => some ((!decide (r218 = (a3.length : Int))), ()))).bind fun c219 => if c219.1 = true then inB (some (Tm.rt false)) else some (Bo.nx ())) (s_ifB ins_T (t_kd (c := fun (b_ : (((Unit × (Int ⊕ (Str ⊕ (List Str)))) × ((Unit × Unit) × (Int ⊕ (Str ⊕ (List Str))))) × Bool)) => (!b_.2)) (t_not (t_kd (c := fun (b_ : (((Unit × (Int ⊕ (Str ⊕ (List Str)))) × ((Unit × Unit) × (Int ⊕ (Str ⊕ (List Str))))) × Bool)) => b_.2) (t_val (x_kd (E := fun (b_ : (((Unit × (Int ⊕ (Str ⊕ (List Str)))) × ((Unit × Unit) × (Int ⊕ (Str ⊕ (List Str))))) × Bool)) => pBl b_.2) (x_FF_f (kk := 2) (E1 := (pOp (pSm pInt (pSm pStr (I_Unlike mg))))) (E2 := (pSm pInt (pSm pStr (I_Unlike mg)))) k_l_same_state (hr.mono (by decide)) g_l_same_state F_l_same_state.kp b_l_same_state (co_some (E := (pSm pInt (pSm pStr (I_Unlike mg)))) (x_kd (E := fun (b_ : (Unit × (Int ⊕ (Str ⊕ (List Str))))) => (pSm pInt (pSm pStr (I_Unlike mg))) b_.2) (x_propF (Δ1 := fun _ => _) (kk := 1) (cn := "History") (xs := fun (b : Unit) => a1) gc_History_state hc_History_state hp_History_state k_History_state (hr.mono (by decide)) b_History_state (x_var (p := (I_History mg) a1) 0)))) (fun _ => x_kd (E := fun (b_ : ((Unit × Unit) × (Int ⊕ (Str ⊕ (List Str))))) => (pSm pInt (pSm pStr (I_Unlike mg))) b_.2) (x_ixL (Ee := (pSm pInt (pSm pStr (I_Unlike mg)))) (x_var (p := (pL (pSm pInt (pSm pStr (I_Unlike mg)))) a2) 1) (fun _ => x_kd (E := fun (b_ : Unit) => pInt (-(1 : Int))) (x_neg (x_int (i := 1)))) (fun _ _ => rdF))))))))) (fun (b206 : (((Unit × (Int ⊕ (Str ⊕ (List Str)))) × ((Unit × Unit) × (Int ⊕ (Str ⊕ (List Str))))) × Bool)) => s_T (T := some (Tm.rt false)) (s_ret (P := (fun _ => [])) (Rp := pBl) (ι := Tm.rt) (rv := fun (b : Unit) => false) (fun _ _ _ h => by exact h) x_bl (fun _ => List.Sublist.refl _))) fun (b206 : (((Unit × (Int ⊕ (Str ⊕ (List Str)))) × ((Unit × Unit) × (Int ⊕ (Str ⊕ (List Str))))) × Bool)) => s_T (T := (M_History_steps a1).bind fun r207 => (M_l_is_integer r207).bind fun r208 => ((if (!r208) = true then some (true, ()) else (M_History_steps a1).bind fun r211 => some ((!decide (r211 = ((a2.length : Int) - (1 : Int)))), ()))).bind fun c212 => if c212.1 = true then inB (some (Tm.rt false)) else (M_History_undone a1).bind fun r214 => (M_l_is_integer r214).bind fun r215 => ((if (!r215) = true then some (true, ()) else (M_History_undone a1).bind fun r218 => some ((!decide (r218 = (a3.length : Int))), ()))).bind fun c219 => if c219.1 = true then inB (some (Tm.rt false)) else some (Bo.nx ())) (s_ifB ins_T (t_kd (c := fun (b_ : (((Unit × Int) × Bool) × (Bool × Unit))) => b_.2.1) (PW.pt (w_orM (ΔS := fun (b_ : ((Unit × Int) × Bool)) (s_ : Unit) => []) (s1 := fun (b_ : ((Unit × Int) × Bool)) => ()) (s2 := fun (b_ : ((Unit × Int) × Bool)) (c_ : ((Unit × Int) × (Unit × Unit))) => ()) (t_kd (c := fun (b_ : ((Unit × Int) × Bool)) => (!b_.2)) (t_not (t_kd (c := fun (b_ : ((Unit × Int) × Bool)) => b_.2) (t_val (x_kd (E := fun (b_ : ((Unit × Int) × Bool)) => pBl b_.2) (x_F_f (kk := 1) (E1 := pInt) k_l_is_integer (hr.mono (by decide)) g_l_is_integer F_l_is_integer.kp b_l_is_integer (x_kd (E := fun (b_ : (Unit × Int)) => pInt b_.2) (x_propF (Δ1 := fun _ => _) (kk := 1) (cn := "History") (xs := fun (b : Unit) => a1) gc_History_steps hc_History_steps hp_History_steps k_History_steps (hr.mono (by decide)) b_History_steps (x_var (p := (I_History mg) a1) 0))))))))) (fun (b210 : ((Unit × Int) × Bool)) => w_or1 (t_kd (c := fun (b_ : ((Unit × Int) × (Unit × Unit))) => (!decide (b_.1.2 = ((a2.length : Int) - (1 : Int))))) (t_neI (x_kd (E := fun (b_ : (Unit × Int)) => pInt b_.2) (x_propF (Δ1 := fun _ => _) (kk := 1) (cn := "History") (xs := fun (b : Unit) => a1) gc_History_steps hc_History_steps hp_History_steps k_History_steps (hr.mono (by decide)) b_History_steps (x_var (p := (I_History mg) a1) 0))) (fun _ => x_kd (E := fun (b_ : (Unit × Unit)) => pInt ((a2.length : Int) - (1 : Int))) (x_sub (x_kd (E := fun (b_ : Unit) => pInt (a2.length : Int)) (x_lenL (Ee := (pSm pInt (pSm pStr (I_Unlike mg)))) m_len (x_var (p := (pL (pSm pInt (pSm pStr (I_Unlike mg)))) a2) 1) (fun _ => rdF))) (fun _ => x_int (i := 1))))))) (fun _ => rfl) (fun _ _ => rfl)))) (fun (b213 : (((Unit × Int) × Bool) × (Bool × Unit))) => s_T (T := some (Tm.rt false)) (s_ret (P := (fun _ => [])) (Rp := pBl) (ι := Tm.rt) (rv := fun (b : Unit) => false) (fun _ _ _ h => by exact h) x_bl (fun _ => List.Sublist.refl _))) fun (b213 : (((Unit × Int) × Bool) × (Bool × Unit))) => s_T (T := (M_History_undone a1).bind fun r214 => (M_l_is_integer r214).bind fun r215 => ((if (!r215) = true then some (true, ()) else (M_History_undone a1).bind fun r218 => some ((!decide (r218 = (a3.length : Int))), ()))).bind fun c219 => if c219.1 = true then inB (some (Tm.rt false)) else some (Bo.nx ())) (s_ifB ins_T (t_kd (c := fun (b_ : (((Unit × Int) × Bool) × (Bool × Unit))) => b_.2.1) (PW.pt (w_orM (ΔS := fun (b_ : ((Unit × Int) × Bool)) (s_ : Unit) => []) (s1 := fun (b_ : ((Unit × Int) × Bool)) => ()) (s2 := fun (b_ : ((Unit × Int) × Bool)) (c_ : ((Unit × Int) × Unit)) => ()) (t_kd (c := fun (b_ : ((Unit × Int) × Bool)) => (!b_.2)) (t_not (t_kd (c := fun (b_ : ((Unit × Int) × Bool)) => b_.2) (t_val (x_kd (E := fun (b_ : ((Unit × Int) × Bool)) => pBl b_.2) (x_F_f (kk := 1) (E1 := pInt) k_l_is_integer (hr.mono (by decide)) g_l_is_integer F_l_is_integer.kp b_l_is_integer (x_kd (E := fun (b_ : (Unit × Int)) => pInt b_.2) (x_propF (Δ1 := fun _ => _) (kk := 1) (cn := "History") (xs := fun (b : Unit) => a1) gc_History_undone hc_History_undone hp_History_undone k_History_undone (hr.mono (by decide)) b_History_undone (x_var (p := (I_History mg) a1) 0))))))))) (fun (b217 : ((Unit × Int) × Bool)) => w_or1 (t_kd (c := fun (b_ : ((Unit × Int) × Unit)) => (!decide (b_.1.2 = (a3.length : Int)))) (t_neI (x_kd (E := fun (b_ : (Unit × Int)) => pInt b_.2) (x_propF (Δ1 := fun _ => _) (kk := 1) (cn := "History") (xs := fun (b : Unit) => a1) gc_History_undone hc_History_undone hp_History_undone k_History_undone (hr.mono (by decide)) b_History_undone (x_var (p := (I_History mg) a1) 0))) (fun _ => x_kd (E := fun (b_ : Unit) => pInt (a3.length : Int)) (x_lenL (Ee := (pSm pInt (pSm pStr (I_Unlike mg)))) m_len (x_var (p := (pL (pSm pInt (pSm pStr (I_Unlike mg)))) a3) 2) (fun _ => rdF)))))) (fun _ => rfl) (fun _ _ => rfl)))) (fun (b220 : (((Unit × Int) × Bool) × (Bool × Unit))) => s_T (T := some (Tm.rt false)) (s_ret (P := (fun _ => [])) (Rp := pBl) (ι := Tm.rt) (rv := fun (b : Unit) => false) (fun _ _ _ h => by exact h) x_bl (fun _ => List.Sublist.refl _))) fun (b220 : (((Unit × Int) × Bool) × (Bool × Unit))) => s_endB () (by exact ⟨rfl, rfl, rfl, trivial⟩) (List.Sublist.refl _))))) (fun b199 s202 => s_T (T := some true) (s_ret (P := (fun _ => [])) (Rp := pBl) (ι := id) (rv := fun (b : Unit) => true) (fun _ _ _ h => by exact h) x_bl (fun _ => List.Sublist.refl _))) (fun _ _ _ h => by exact h))) (by unfold M_l_looks; rfl)
end
end My
end
section
set_option maxHeartbeats 4000000
set_option synthInstance.maxSize 2000
namespace My
open PySem PySem.Spec PyProof.Rows L2 L3
section
variable {P : Program} {w : World} {K : PySem.W.Frag} {mg : Str → Option Value} {base : Heap}
theorem sc_l_undo : FnScope ["_law_history", "_law_before", "_law_after", "_law_refused", "_law_actual", "e"] ["_law_history", "_law_before", "_law_after"] (defScope (top 40)) := ⟨rfl, rfl, rfl, by decide +kernel, rfl, by decide +kernel, by decide +kernel⟩
theorem ok_l_undo {f : Addr} {fd : FuncData} (C : Ev P K mg) (FD : FnP K "_law_undo" (top 40) f fd) : FnOk P w K mg base CX0 3 f fd ["_law_history", "_law_before", "_law_after"] (SpN (fun (a : (V × ((List (Int ⊕ (Str ⊕ (List Str)))) × (List (Int ⊕ (Str ⊕ (List Str)))))) × (V × (List (Int ⊕ (Str ⊕ (List Str))))) × (V × (List (Int ⊕ (Str ⊕ (List Str)))))) => ([pV a.1.1, pV a.2.1.1, pV a.2.2.1] : List Pd)) (fun (a : (V × ((List (Int ⊕ (Str ⊕ (List Str)))) × (List (Int ⊕ (Str ⊕ (List Str)))))) × (V × (List (Int ⊕ (Str ⊕ (List Str))))) × (V × (List (Int ⊕ (Str ⊕ (List Str)))))) => ([⟨a.1.1, (O_History mg) a.1.2, some 0⟩, ⟨a.2.1.1, (oL (pSm pInt (pSm pStr (I_Unlike mg)))) a.2.1.2, some 1⟩, ⟨a.2.2.1, (oL (pSm pInt (pSm pStr (I_Unlike mg)))) a.2.2.2, some 2⟩] : List Cell)) (fun (a : (V × ((List (Int ⊕ (Str ⊕ (List Str)))) × (List (Int ⊕ (Str ⊕ (List Str)))))) × (V × (List (Int ⊕ (Str ⊕ (List Str))))) × (V × (List (Int ⊕ (Str ⊕ (List Str)))))) => M_l_undo a.1.2 a.2.1.2 a.2.2.2) (fun (a : (V × ((List (Int ⊕ (Str ⊕ (List Str)))) × (List (Int ⊕ (Str ⊕ (List Str)))))) × (V × (List (Int ⊕ (Str ⊕ (List Str))))) × (V × (List (Int ⊕ (Str ⊕ (List Str)))))) (r : Bool × ((List (Int ⊕ (Str ⊕ (List Str)))) × (List (Int ⊕ (Str ⊕ (List Str))))) × (List (Int ⊕ (Str ⊕ (List Str)))) × (List (Int ⊕ (Str ⊕ (List Str))))) => ([⟨a.1.1, (O_History mg) r.2.1, some 0⟩, ⟨a.2.1.1, (oL (pSm pInt (pSm pStr (I_Unlike mg)))) r.2.2.1, some 1⟩, ⟨a.2.2.1, (oL (pSm pInt (pSm pStr (I_Unlike mg)))) r.2.2.2, some 2⟩] : List Cell)) (fun (r : Bool × ((List (Int ⊕ (Str ⊕ (List Str)))) × (List (Int ⊕ (Str ⊕ (List Str))))) × (List (Int ⊕ (Str ⊕ (List Str)))) × (List (Int ⊕ (Str ⊕ (List Str))))) => pBl r.1)) := by
  obtain ⟨C_History, fI_History, fdI_History, gC_History, hC_History, hK_History, FI_History, n_History__done, n_History__undone⟩ := C.c_History
  have m_isinstance := C.m_isinstance
  have m_len := C.m_len
  obtain ⟨f_l_same_state, fd_l_same_state, F_l_same_state, g_l_same_state⟩ := C.f_l_same_state
  have k_l_same_state := ok_l_same_state (P := P) (w := w) (base := base) C F_l_same_state
  have b_l_same_state : Binds K fd_l_same_state ["_law_actual", "_law_due"] [] := F_l_same_state.bindsN fun _ _ _ _ _ _ us hl => match us, hl with | [_, _], _ => rfl
  obtain ⟨c_History_undo, f_History_undo, fd_History_undo, gc_History_undo, hc_History_undo, hm_History_undo, F_History_undo⟩ := C.f_History_undo
  have k_History_undo := ok_History_undo (P := P) (w := w) (base := base) C F_History_undo
  have b_History_undo : Binds K fd_History_undo ["self"] [] := F_History_undo.bindsN fun _ _ _ _ _ _ us hl => match us, hl with | [_], _ => rfl
  refine fn_N (A := (fun (a : (V × ((List (Int ⊕ (Str ⊕ (List Str)))) × (List (Int ⊕ (Str ⊕ (List Str)))))) × (V × (List (Int ⊕ (Str ⊕ (List Str))))) × (V × (List (Int ⊕ (Str ⊕ (List Str)))))) => ([pV a.1.1, pV a.2.1.1, pV a.2.2.1] : List Pd))) (C := (fun (a : (V × ((List (Int ⊕ (Str ⊕ (List Str)))) × (List (Int ⊕ (Str ⊕ (List Str)))))) × (V × (List (Int ⊕ (Str ⊕ (List Str))))) × (V × (List (Int ⊕ (Str ⊕ (List Str)))))) => ([⟨a.1.1, (O_History mg) a.1.2, some 0⟩, ⟨a.2.1.1, (oL (pSm pInt (pSm pStr (I_Unlike mg)))) a.2.1.2, some 1⟩, ⟨a.2.2.1, (oL (pSm pInt (pSm pStr (I_Unlike mg)))) a.2.2.2, some 2⟩] : List Cell))) (Mf := (fun (a : (V × ((List (Int ⊕ (Str ⊕ (List Str)))) × (List (Int ⊕ (Str ⊕ (List Str)))))) × (V × (List (Int ⊕ (Str ⊕ (List Str))))) × (V × (List (Int ⊕ (Str ⊕ (List Str)))))) => M_l_undo a.1.2 a.2.1.2 a.2.2.2)) (Cr := (fun (a : (V × ((List (Int ⊕ (Str ⊕ (List Str)))) × (List (Int ⊕ (Str ⊕ (List Str)))))) × (V × (List (Int ⊕ (Str ⊕ (List Str))))) × (V × (List (Int ⊕ (Str ⊕ (List Str)))))) (r : Bool × ((List (Int ⊕ (Str ⊕ (List Str)))) × (List (Int ⊕ (Str ⊕ (List Str))))) × (List (Int ⊕ (Str ⊕ (List Str)))) × (List (Int ⊕ (Str ⊕ (List Str))))) => ([⟨a.1.1, (O_History mg) r.2.1, some 0⟩, ⟨a.2.1.1, (oL (pSm pInt (pSm pStr (I_Unlike mg)))) r.2.2.1, some 1⟩, ⟨a.2.2.1, (oL (pSm pInt (pSm pStr (I_Unlike mg)))) r.2.2.2, some 2⟩] : List Cell))) FD sc_l_undo (fun _ => rfl) rfl (fun _ => ⟨rfl, rfl, rfl, trivial⟩) fun cdv A outer s H E hr Gs ⟨⟨v1, a1⟩, ⟨v2, a2⟩, ⟨v3, a3⟩⟩ => ?_
  exact s_is (s_T (T := (some (false : Bool)).bind fun x221 => (some ((none : Option (Int ⊕ (Str ⊕ (List Str)))) : Option (Int ⊕ (Str ⊕ (List Str))))).bind fun x223 => ((M_History_undo a1).bind (xK (fun e => Bo.tm ((Except.error) e)) fun r235 => (some ((some (r235.1)) : Option (Int ⊕ (Str ⊕ (List Str))))).bind fun x236 => some (Bo.nx (x221, x236, r235.2)))).bind (tryK (fun s225 => if (decide ((a2.length : Int) = (1 : Int))) = true then some (s225.1, s225.2.2, a2, a3) else (popL a2).bind fun q227 => grd (a3.length < sizeLine) (((if (!(s225.1)) = true then (atI (q227.2) (-(1 : Int))).bind fun x232 => (M_l_same_state (s225.2.1) x232).bind fun r233 => some (r233, ()) else some (false, ()))).bind fun c234 => some (c234.1, s225.2.2, q227.2, (a3 ++ [q227.1])))) id (fun e => subC e.cn "NothingToUndo") (fun e238 => if ((!(subC e238.cn "DeskError")) || (!(subC e238.cn "ValueError"))) = true then inB (some (false, a1, a2, a3)) else if ((["UnknownName", "RepeatedName", "UnknownValue", "RepeatedValue", "UnknownKey", "RepeatedKey", "EmptyRule"] : List Str).any (subC e238.cn)) = true then inB (some (false, a1, a2, a3)) else if ((["BadRow", "BadBounds", "BadNumber", "BadStep", "NoMark", "NotStruck", "BadOrder", "NotBare", "NoClash"] : List Str).any (subC e238.cn)) = true then inB (some (false, a1, a2, a3)) else if ((["HoldsAnswer", "BadLine", "UnknownLine", "BadText", "NothingToRedo", "UnknownStep", "BadDeed"] : List Str).any (subC e238.cn)) = true then inB (some (false, a1, a2, a3)) else (some (true : Bool)).bind fun x243 => some (Bo.nx (x243, x223, a1))) (fun _ => none))) (s_let (i := 3) pBl sc_l_undo.nd x_bl fun (b222 : Unit) x221 => s_T (T := (some ((none : Option (Int ⊕ (Str ⊕ (List Str)))) : Option (Int ⊕ (Str ⊕ (List Str))))).bind fun x223 => ((M_History_undo a1).bind (xK (fun e => Bo.tm ((Except.error) e)) fun r235 => (some ((some (r235.1)) : Option (Int ⊕ (Str ⊕ (List Str))))).bind fun x236 => some (Bo.nx (x221, x236, r235.2)))).bind (tryK (fun s225 => if (decide ((a2.length : Int) = (1 : Int))) = true then some (s225.1, s225.2.2, a2, a3) else (popL a2).bind fun q227 => grd (a3.length < sizeLine) (((if (!(s225.1)) = true then (atI (q227.2) (-(1 : Int))).bind fun x232 => (M_l_same_state (s225.2.1) x232).bind fun r233 => some (r233, ()) else some (false, ()))).bind fun c234 => some (c234.1, s225.2.2, q227.2, (a3 ++ [q227.1])))) id (fun e => subC e.cn "NothingToUndo") (fun e238 => if ((!(subC e238.cn "DeskError")) || (!(subC e238.cn "ValueError"))) = true then inB (some (false, a1, a2, a3)) else if ((["UnknownName", "RepeatedName", "UnknownValue", "RepeatedValue", "UnknownKey", "RepeatedKey", "EmptyRule"] : List Str).any (subC e238.cn)) = true then inB (some (false, a1, a2, a3)) else if ((["BadRow", "BadBounds", "BadNumber", "BadStep", "NoMark", "NotStruck", "BadOrder", "NotBare", "NoClash"] : List Str).any (subC e238.cn)) = true then inB (some (false, a1, a2, a3)) else if ((["HoldsAnswer", "BadLine", "UnknownLine", "BadText", "NothingToRedo", "UnknownStep", "BadDeed"] : List Str).any (subC e238.cn)) = true then inB (some (false, a1, a2, a3)) else (some (true : Bool)).bind fun x243 => some (Bo.nx (x243, x223, a1))) (fun _ => none))) (s_let (i := 4) (pOp (pSm pInt (pSm pStr (I_Unlike mg)))) sc_l_undo.nd (co_none (E := (pSm pInt (pSm pStr (I_Unlike mg)))) x_non) fun (b224 : Unit) x223 => s_T (T := ((M_History_undo a1).bind (xK (fun e => Bo.tm ((Except.error) e)) fun r235 => (some ((some (r235.1)) : Option (Int ⊕ (Str ⊕ (List Str))))).bind fun x236 => some (Bo.nx (x221, x236, r235.2)))).bind (tryK (fun s225 => if (decide ((a2.length : Int) = (1 : Int))) = true then some (s225.1, s225.2.2, a2, a3) else (popL a2).bind fun q227 => grd (a3.length < sizeLine) (((if (!(s225.1)) = true then (atI (q227.2) (-(1 : Int))).bind fun x232 => (M_l_same_state (s225.2.1) x232).bind fun r233 => some (r233, ()) else some (false, ()))).bind fun c234 => some (c234.1, s225.2.2, q227.2, (a3 ++ [q227.1])))) id (fun e => subC e.cn "NothingToUndo") (fun e238 => if ((!(subC e238.cn "DeskError")) || (!(subC e238.cn "ValueError"))) = true then inB (some (false, a1, a2, a3)) else if ((["UnknownName", "RepeatedName", "UnknownValue", "RepeatedValue", "UnknownKey", "RepeatedKey", "EmptyRule"] : List Str).any (subC e238.cn)) = true then inB (some (false, a1, a2, a3)) else if ((["BadRow", "BadBounds", "BadNumber", "BadStep", "NoMark", "NotStruck", "BadOrder", "NotBare", "NoClash"] : List Str).any (subC e238.cn)) = true then inB (some (false, a1, a2, a3)) else if ((["HoldsAnswer", "BadLine", "UnknownLine", "BadText", "NothingToRedo", "UnknownStep", "BadDeed"] : List Str).any (subC e238.cn)) = true then inB (some (false, a1, a2, a3)) else (some (true : Bool)).bind fun x243 => some (Bo.nx (x243, x223, a1))) (fun _ => none))) (s_try_as (Tf := (fF (RF ⟨H, Gs⟩ (fun (r : Bool × ((List (Int ⊕ (Str ⊕ (List Str)))) × (List (Int ⊕ (Str ⊕ (List Str))))) × (List (Int ⊕ (Str ⊕ (List Str)))) × (List (Int ⊕ (Str ⊕ (List Str))))) => [⟨v1, (O_History mg) r.2.1, some 0⟩, ⟨v2, (oL (pSm pInt (pSm pStr (I_Unlike mg)))) r.2.2.1, some 1⟩, ⟨v3, (oL (pSm pInt (pSm pStr (I_Unlike mg)))) r.2.2.2, some 2⟩]) (fun (r : Bool × ((List (Int ⊕ (Str ⊕ (List Str)))) × (List (Int ⊕ (Str ⊕ (List Str))))) × (List (Int ⊕ (Str ⊕ (List Str)))) × (List (Int ⊕ (Str ⊕ (List Str))))) => pBl r.1)))) (Ke := fun _ => none) (ι := id) (i := 5) (m := fun e => subC e.cn "NothingToUndo") (Kx := erX mg rsL) (fun s_ : Bool × (Option (Int ⊕ (Str ⊕ (List Str)))) × ((List (Int ⊕ (Str ⊕ (List Str)))) × (List (Int ⊕ (Str ⊕ (List Str))))) => ([some (pV v1), some (pV v2), some (pV v3), some (pBl s_.1), some ((pOp (pSm pInt (pSm pStr (I_Unlike mg)))) s_.2.1), none], [⟨v1, (O_History mg) s_.2.2, some 0⟩, ⟨v2, (oL (pSm pInt (pSm pStr (I_Unlike mg)))) a2, some 1⟩, ⟨v3, (oL (pSm pInt (pSm pStr (I_Unlike mg)))) a3, some 2⟩])) ([some (pV v1), some (pV v2), some (pV v3), some (pBl x221), some ((pOp (pSm pInt (pSm pStr (I_Unlike mg)))) x223), none]) ([⟨v1, (O_History mg) a1, some 0⟩, ⟨v2, (oL (pSm pInt (pSm pStr (I_Unlike mg)))) a2, some 1⟩, ⟨v3, (oL (pSm pInt (pSm pStr (I_Unlike mg)))) a3, some 2⟩]) sc_l_undo.nd (C.xs.names (by decide +kernel)) takes_no (C.xs.exms (by decide +kernel)) (by rfl) (fun W pn xe tkW po => s_T (T := (M_History_undo a1).bind (xK (fun e => Bo.tm ((Except.error) e)) fun r235 => (some ((some (r235.1)) : Option (Int ⊕ (Str ⊕ (List Str))))).bind fun x236 => some (Bo.nx (x221, x236, r235.2)))) (s_letX (i := 4) (pOp (pSm pInt (pSm pStr (I_Unlike mg)))) sc_l_undo.nd (x_wkX (E2 := fun (b_ : (Unit × ((Int ⊕ (Str ⊕ (List Str))) × ((List (Int ⊕ (Str ⊕ (List Str)))) × (List (Int ⊕ (Str ⊕ (List Str)))))))) => (pOp (pSm pInt (pSm pStr (I_Unlike mg)))) (some b_.2.1)) (x_XNM0 (kk := 1) (cn := "History") (xs := fun (b : Unit) => (v1, a1)) [some 0] _ 0 tkW gc_History_undo hc_History_undo hm_History_undo k_History_undo (hr.mono (by decide)) b_History_undo (x_var (p := pV v1) 0) (fun _ => rfl) (by decide +kernel) (fun _ => rfl) (fun _ _ _ ok => (ok.out (j := 0) rfl)) (fun _ _ _ _ ok => (ok.back (j := 0) rfl)) (fun _ _ _ ok => (ok.back (j := 0) rfl)) (hn := fun _ _ => ⟨rfl, trivial⟩) (hnx := fun _ => ⟨rfl, trivial⟩)) (fun _ _ _ h => by exact h)) (ex_B ex_X) (List.Sublist.refl _) (fun _ _ h => nm_wk h (by exact ⟨rfl, rfl, rfl, rfl, rfl, trivial⟩)) fun (b237 : (Unit × ((Int ⊕ (Str ⊕ (List Str))) × ((List (Int ⊕ (Str ⊕ (List Str)))) × (List (Int ⊕ (Str ⊕ (List Str)))))))) x236 => s_endB (x221, x236, b237.2.2) (by exact ⟨rfl, rfl, rfl, rfl, rfl, trivial⟩) (List.Sublist.refl _))) (fun a oe cls d pn hz hf e238 => s_T (T := if ((!(subC e238.cn "DeskError")) || (!(subC e238.cn "ValueError"))) = true then inB (some (false, a1, a2, a3)) else if ((["UnknownName", "RepeatedName", "UnknownValue", "RepeatedValue", "UnknownKey", "RepeatedKey", "EmptyRule"] : List Str).any (subC e238.cn)) = true then inB (some (false, a1, a2, a3)) else if ((["BadRow", "BadBounds", "BadNumber", "BadStep", "NoMark", "NotStruck", "BadOrder", "NotBare", "NoClash"] : List Str).any (subC e238.cn)) = true then inB (some (false, a1, a2, a3)) else if ((["HoldsAnswer", "BadLine", "UnknownLine", "BadText", "NothingToRedo", "UnknownStep", "BadDeed"] : List Str).any (subC e238.cn)) = true then inB (some (false, a1, a2, a3)) else (some (true : Bool)).bind fun x243 => some (Bo.nx (x243, x223, a1))) (s_ifB (ins_F _) (t_kd (c := fun (b_ : Unit) => ((!(subC e238.cn "DeskError")) || (!(subC e238.cn "ValueError")))) (PW.pt (w_or (t_totV (!(subC e238.cn "DeskError")) () (fun _ => rfl) (by exact (t_kd (c := fun (b_ : Unit) => (!(subC e238.cn "DeskError"))) (t_not (t_kd (c := fun (b_ : Unit) => (subC e238.cn "DeskError")) (t_val (x_kd (E := fun (b_ : Unit) => pBl (subC e238.cn "DeskError")) (x_isE1 (y := "DeskError") hz hf C.xs (by decide +kernel) m_isinstance (y_var (p := pExc (erX mg rsL) a cls d e238) 5))))))))) (w_or1 (t_totV (!(subC e238.cn "ValueError")) () (fun _ => rfl) (by exact (t_kd (c := fun (b_ : Unit) => (!(subC e238.cn "ValueError"))) (t_not (t_kd (c := fun (b_ : Unit) => (subC e238.cn "ValueError")) (t_val (x_kd (E := fun (b_ : Unit) => pBl (subC e238.cn "ValueError")) (x_isE1 (y := "ValueError") hz hf C.xs (by decide +kernel) m_isinstance (y_var (p := pExc (erX mg rsL) a cls d e238) 5))))))))))))) (fun (b239 : Unit) => s_T (T := some (false, a1, a2, a3)) (s_ret (P := (fun (r : Bool × ((List (Int ⊕ (Str ⊕ (List Str)))) × (List (Int ⊕ (Str ⊕ (List Str))))) × (List (Int ⊕ (Str ⊕ (List Str)))) × (List (Int ⊕ (Str ⊕ (List Str))))) => [⟨v1, (O_History mg) r.2.1, some 0⟩, ⟨v2, (oL (pSm pInt (pSm pStr (I_Unlike mg)))) r.2.2.1, some 1⟩, ⟨v3, (oL (pSm pInt (pSm pStr (I_Unlike mg)))) r.2.2.2, some 2⟩])) (Rp := (fun (r : Bool × ((List (Int ⊕ (Str ⊕ (List Str)))) × (List (Int ⊕ (Str ⊕ (List Str))))) × (List (Int ⊕ (Str ⊕ (List Str)))) × (List (Int ⊕ (Str ⊕ (List Str))))) => pBl r.1)) (ι := id) (rv := fun (b : Unit) => (false, a1, a2, a3)) (fun _ _ _ h => by exact h) x_bl (fun _ => List.Sublist.refl _))) fun (b239 : Unit) => s_T (T := if ((["UnknownName", "RepeatedName", "UnknownValue", "RepeatedValue", "UnknownKey", "RepeatedKey", "EmptyRule"] : List Str).any (subC e238.cn)) = true then inB (some (false, a1, a2, a3)) else if ((["BadRow", "BadBounds", "BadNumber", "BadStep", "NoMark", "NotStruck", "BadOrder", "NotBare", "NoClash"] : List Str).any (subC e238.cn)) = true then inB (some (false, a1, a2, a3)) else if ((["HoldsAnswer", "BadLine", "UnknownLine", "BadText", "NothingToRedo", "UnknownStep", "BadDeed"] : List Str).any (subC e238.cn)) = true then inB (some (false, a1, a2, a3)) else (some (true : Bool)).bind fun x243 => some (Bo.nx (x243, x223, a1))) (s_ifB (ins_F _) (t_kd (c := fun (b_ : Unit) => ((["UnknownName", "RepeatedName", "UnknownValue", "RepeatedValue", "UnknownKey", "RepeatedKey", "EmptyRule"] : List Str).any (subC e238.cn))) (t_val (x_kd (E := fun (b_ : Unit) => pBl ((["UnknownName", "RepeatedName", "UnknownValue", "RepeatedValue", "UnknownKey", "RepeatedKey", "EmptyRule"] : List Str).any (subC e238.cn))) (x_isEC ["UnknownName", "RepeatedName", "UnknownValue", "RepeatedValue", "UnknownKey", "RepeatedKey", "EmptyRule"] hz hf C.xs (by decide +kernel) (by decide) m_isinstance (x_var (p := pExc (erX mg rsL) a cls d e238) 5) (fun _ => (c_cons C.xs (by decide +kernel) (c_cons C.xs (by decide +kernel) (c_cons C.xs (by decide +kernel) (c_cons C.xs (by decide +kernel) (c_cons C.xs (by decide +kernel) (c_cons C.xs (by decide +kernel) (c_cons C.xs (by decide +kernel) c_nil)))))))))))) (fun (b240 : Unit) => s_T (T := some (false, a1, a2, a3)) (s_ret (P := (fun (r : Bool × ((List (Int ⊕ (Str ⊕ (List Str)))) × (List (Int ⊕ (Str ⊕ (List Str))))) × (List (Int ⊕ (Str ⊕ (List Str)))) × (List (Int ⊕ (Str ⊕ (List Str))))) => [⟨v1, (O_History mg) r.2.1, some 0⟩, ⟨v2, (oL (pSm pInt (pSm pStr (I_Unlike mg)))) r.2.2.1, some 1⟩, ⟨v3, (oL (pSm pInt (pSm pStr (I_Unlike mg)))) r.2.2.2, some 2⟩])) (Rp := (fun (r : Bool × ((List (Int ⊕ (Str ⊕ (List Str)))) × (List (Int ⊕ (Str ⊕ (List Str))))) × (List (Int ⊕ (Str ⊕ (List Str)))) × (List (Int ⊕ (Str ⊕ (List Str))))) => pBl r.1)) (ι := id) (rv := fun (b : Unit) => (false, a1, a2, a3)) (fun _ _ _ h => by exact h) x_bl (fun _ => List.Sublist.refl _))) fun (b240 : Unit) => s_T (T := if ((["BadRow", "BadBounds", "BadNumber", "BadStep", "NoMark", "NotStruck", "BadOrder", "NotBare", "NoClash"] : List Str).any (subC e238.cn)) = true then inB (some (false, a1, a2, a3)) else if ((["HoldsAnswer", "BadLine", "UnknownLine", "BadText", "NothingToRedo", "UnknownStep", "BadDeed"] : List Str).any (subC e238.cn)) = true then inB (some (false, a1, a2, a3)) else (some (true : Bool)).bind fun x243 => some (Bo.nx (x243, x223, a1))) (s_ifB (ins_F _) (t_kd (c := fun (b_ : Unit) => ((["BadRow", "BadBounds", "BadNumber", "BadStep", "NoMark", "NotStruck", "BadOrder", "NotBare", "NoClash"] : List Str).any (subC e238.cn))) (t_val (x_kd (E := fun (b_ : Unit) => pBl ((["BadRow", "BadBounds", "BadNumber", "BadStep", "NoMark", "NotStruck", "BadOrder", "NotBare", "NoClash"] : List Str).any (subC e238.cn))) (x_isEC ["BadRow", "BadBounds", "BadNumber", "BadStep", "NoMark", "NotStruck", "BadOrder", "NotBare", "NoClash"] hz hf C.xs (by decide +kernel) (by decide) m_isinstance (x_var (p := pExc (erX mg rsL) a cls d e238) 5) (fun _ => (c_cons C.xs (by decide +kernel) (c_cons C.xs (by decide +kernel) (c_cons C.xs (by decide +kernel) (c_cons C.xs (by decide +kernel) (c_cons C.xs (by decide +kernel) (c_cons C.xs (by decide +kernel) (c_cons C.xs (by decide +kernel) (c_cons C.xs (by decide +kernel) (c_cons C.xs (by decide +kernel) c_nil)))))))))))))) (fun (b241 : Unit) => s_T (T := some (false, a1, a2, a3)) (s_ret (P := (fun (r : Bool × ((List (Int ⊕ (Str ⊕ (List Str)))) × (List (Int ⊕ (Str ⊕ (List Str))))) × (List (Int ⊕ (Str ⊕ (List Str)))) × (List (Int ⊕ (Str ⊕ (List Str))))) => [⟨v1, (O_History mg) r.2.1, some 0⟩, ⟨v2, (oL (pSm pInt (pSm pStr (I_Unlike mg)))) r.2.2.1, some 1⟩, ⟨v3, (oL (pSm pInt (pSm pStr (I_Unlike mg)))) r.2.2.2, some 2⟩])) (Rp := (fun (r : Bool × ((List (Int ⊕ (Str ⊕ (List Str)))) × (List (Int ⊕ (Str ⊕ (List Str))))) × (List (Int ⊕ (Str ⊕ (List Str)))) × (List (Int ⊕ (Str ⊕ (List Str))))) => pBl r.1)) (ι := id) (rv := fun (b : Unit) => (false, a1, a2, a3)) (fun _ _ _ h => by exact h) x_bl (fun _ => List.Sublist.refl _))) fun (b241 : Unit) => s_T (T := if ((["HoldsAnswer", "BadLine", "UnknownLine", "BadText", "NothingToRedo", "UnknownStep", "BadDeed"] : List Str).any (subC e238.cn)) = true then inB (some (false, a1, a2, a3)) else (some (true : Bool)).bind fun x243 => some (Bo.nx (x243, x223, a1))) (s_ifB (ins_F _) (t_kd (c := fun (b_ : Unit) => ((["HoldsAnswer", "BadLine", "UnknownLine", "BadText", "NothingToRedo", "UnknownStep", "BadDeed"] : List Str).any (subC e238.cn))) (t_val (x_kd (E := fun (b_ : Unit) => pBl ((["HoldsAnswer", "BadLine", "UnknownLine", "BadText", "NothingToRedo", "UnknownStep", "BadDeed"] : List Str).any (subC e238.cn))) (x_isEC ["HoldsAnswer", "BadLine", "UnknownLine", "BadText", "NothingToRedo", "UnknownStep", "BadDeed"] hz hf C.xs (by decide +kernel) (by decide) m_isinstance (x_var (p := pExc (erX mg rsL) a cls d e238) 5) (fun _ => (c_cons C.xs (by decide +kernel) (c_cons C.xs (by decide +kernel) (c_cons C.xs (by decide +kernel) (c_cons C.xs (by decide +kernel) (c_cons C.xs (by decide +kernel) (c_cons C.xs (by decide +kernel) (c_cons C.xs (by decide +kernel) c_nil)))))))))))) (fun (b242 : Unit) => s_T (T := some (false, a1, a2, a3)) (s_ret (P := (fun (r : Bool × ((List (Int ⊕ (Str ⊕ (List Str)))) × (List (Int ⊕ (Str ⊕ (List Str))))) × (List (Int ⊕ (Str ⊕ (List Str)))) × (List (Int ⊕ (Str ⊕ (List Str))))) => [⟨v1, (O_History mg) r.2.1, some 0⟩, ⟨v2, (oL (pSm pInt (pSm pStr (I_Unlike mg)))) r.2.2.1, some 1⟩, ⟨v3, (oL (pSm pInt (pSm pStr (I_Unlike mg)))) r.2.2.2, some 2⟩])) (Rp := (fun (r : Bool × ((List (Int ⊕ (Str ⊕ (List Str)))) × (List (Int ⊕ (Str ⊕ (List Str))))) × (List (Int ⊕ (Str ⊕ (List Str)))) × (List (Int ⊕ (Str ⊕ (List Str))))) => pBl r.1)) (ι := id) (rv := fun (b : Unit) => (false, a1, a2, a3)) (fun _ _ _ h => by exact h) x_bl (fun _ => List.Sublist.refl _))) fun (b242 : Unit) => s_T (T := (some (true : Bool)).bind fun x243 => some (Bo.nx (x243, x223, a1))) (s_let (i := 3) pBl sc_l_undo.nd x_bl fun (b244 : Unit) x243 => s_endB (x243, x223, a1) (by exact ⟨rfl, rfl, rfl, rfl, rfl, trivial⟩) (List.Sublist.refl _))))))) (fun s225 => s_T (T := if (decide ((a2.length : Int) = (1 : Int))) = true then some (s225.1, s225.2.2, a2, a3) else (popL a2).bind fun q227 => grd (a3.length < sizeLine) (((if (!(s225.1)) = true then (atI (q227.2) (-(1 : Int))).bind fun x232 => (M_l_same_state (s225.2.1) x232).bind fun r233 => some (r233, ()) else some (false, ()))).bind fun c234 => some (c234.1, s225.2.2, q227.2, (a3 ++ [q227.1])))) (s_ifT (ins_F _) (t_kd (c := fun (b_ : (Unit × Unit)) => (decide ((a2.length : Int) = (1 : Int)))) (t_eqI (x_kd (E := fun (b_ : Unit) => pInt (a2.length : Int)) (x_lenL (Ee := (pSm pInt (pSm pStr (I_Unlike mg)))) m_len (x_var (p := pV v2) 1) (fun _ => rdO 1))) (fun _ => x_int (i := 1)))) (fun (b226 : (Unit × Unit)) => s_T (T := some (s225.1, s225.2.2, a2, a3)) (s_ret (P := (fun (r : Bool × ((List (Int ⊕ (Str ⊕ (List Str)))) × (List (Int ⊕ (Str ⊕ (List Str))))) × (List (Int ⊕ (Str ⊕ (List Str)))) × (List (Int ⊕ (Str ⊕ (List Str))))) => [⟨v1, (O_History mg) r.2.1, some 0⟩, ⟨v2, (oL (pSm pInt (pSm pStr (I_Unlike mg)))) r.2.2.1, some 1⟩, ⟨v3, (oL (pSm pInt (pSm pStr (I_Unlike mg)))) r.2.2.2, some 2⟩])) (Rp := (fun (r : Bool × ((List (Int ⊕ (Str ⊕ (List Str)))) × (List (Int ⊕ (Str ⊕ (List Str))))) × (List (Int ⊕ (Str ⊕ (List Str)))) × (List (Int ⊕ (Str ⊕ (List Str))))) => pBl r.1)) (ι := id) (rv := fun (b : Unit) => (s225.1, s225.2.2, a2, a3)) (fun _ _ _ h => by exact h) (x_var (p := pBl s225.1) 3) (fun _ => List.Sublist.refl _))) fun (b226 : (Unit × Unit)) => s_T (T := (popL a2).bind fun q227 => grd (a3.length < sizeLine) (((if (!(s225.1)) = true then (atI (q227.2) (-(1 : Int))).bind fun x232 => (M_l_same_state (s225.2.1) x232).bind fun r233 => some (r233, ()) else some (false, ()))).bind fun c234 => some (c234.1, s225.2.2, q227.2, (a3 ++ [q227.1])))) (s_expr (x_app 2 (x_var (p := pV v3) 2) (fun _ => x_kd (E := fun (b_ : (Unit × ((Int ⊕ (Str ⊕ (List Str))) × List (Int ⊕ (Str ⊕ (List Str)))))) => (pSm pInt (pSm pStr (I_Unlike mg))) b_.2.1) (x_popF (Ee := (pSm pInt (pSm pStr (I_Unlike mg)))) 1 (f_var (D := (oL (pSm pInt (pSm pStr (I_Unlike mg))))) (x_var (p := pV v2) 1)))) (fun _ => rfl) (fun _ _ => rfl)) fun (b228 : (Unit × (Unit × ((Int ⊕ (Str ⊕ (List Str))) × List (Int ⊕ (Str ⊕ (List Str))))))) => s_T (T := ((if (!(s225.1)) = true then (atI (b228.2.2.2) (-(1 : Int))).bind fun x232 => (M_l_same_state (s225.2.1) x232).bind fun r233 => some (r233, ()) else some (false, ()))).bind fun c234 => some (c234.1, s225.2.2, b228.2.2.2, (a3 ++ [b228.2.2.1]))) (s_ret (P := (fun (r : Bool × ((List (Int ⊕ (Str ⊕ (List Str)))) × (List (Int ⊕ (Str ⊕ (List Str))))) × (List (Int ⊕ (Str ⊕ (List Str)))) × (List (Int ⊕ (Str ⊕ (List Str))))) => [⟨v1, (O_History mg) r.2.1, some 0⟩, ⟨v2, (oL (pSm pInt (pSm pStr (I_Unlike mg)))) r.2.2.1, some 1⟩, ⟨v3, (oL (pSm pInt (pSm pStr (I_Unlike mg)))) r.2.2.2, some 2⟩])) (Rp := (fun (r : Bool × ((List (Int ⊕ (Str ⊕ (List Str)))) × (List (Int ⊕ (Str ⊕ (List Str))))) × (List (Int ⊕ (Str ⊕ (List Str)))) × (List (Int ⊕ (Str ⊕ (List Str))))) => pBl r.1)) (ι := id) (rv := fun (b : (Unit × (Bool × Unit))) => (b.2.1, s225.2.2, b228.2.2.2, (a3 ++ [b228.2.2.1]))) (fun _ _ _ h => by exact h) (x_kd (x_kd (E := fun (b_ : (Unit × (Bool × Unit))) => pBl b_.2.1) (v_andM (ΔS := fun (b_ : Unit) (s_ : Unit) => [⟨v1, (O_History mg) s225.2.2, some 0⟩, ⟨v2, (oL (pSm pInt (pSm pStr (I_Unlike mg)))) b228.2.2.2, some 1⟩, ⟨v3, (oL (pSm pInt (pSm pStr (I_Unlike mg)))) (a3 ++ [b228.2.2.1]), some 2⟩]) (s1 := fun (b_ : Unit) => ()) (s2 := fun (b_ : Unit) (c_ : ((Unit × ((Unit × Unit) × (Int ⊕ (Str ⊕ (List Str))))) × Bool)) => ()) (x_kd (E := fun (b_ : Unit) => pBl (!(s225.1))) (x_not (x_var (p := pBl s225.1) 3))) (fun (b231 : Unit) => v_one (x_kd (E := fun (b_ : ((Unit × ((Unit × Unit) × (Int ⊕ (Str ⊕ (List Str))))) × Bool)) => pBl b_.2) (x_FF_f (kk := 2) (E1 := (pOp (pSm pInt (pSm pStr (I_Unlike mg))))) (E2 := (pSm pInt (pSm pStr (I_Unlike mg)))) k_l_same_state (hr.mono (by decide)) g_l_same_state F_l_same_state.kp b_l_same_state (x_var (p := (pOp (pSm pInt (pSm pStr (I_Unlike mg)))) s225.2.1) 4) (fun _ => x_kd (E := fun (b_ : ((Unit × Unit) × (Int ⊕ (Str ⊕ (List Str))))) => (pSm pInt (pSm pStr (I_Unlike mg))) b_.2) (x_ixL (Ee := (pSm pInt (pSm pStr (I_Unlike mg)))) (x_var (p := pV v2) 1) (fun _ => x_kd (E := fun (b_ : Unit) => pInt (-(1 : Int))) (x_neg (x_int (i := 1)))) (fun _ _ => rdO 1)))))) (fun _ => rfl) (fun _ _ => rfl)))) (fun _ => List.Sublist.refl _))))) (fun _ _ _ h => by exact h) (ins_F _) (uns_F _) (fun _ => rfl) (fun _ _ _ _ _ h => nomatch h))))) (by unfold M_l_undo; rfl)
end
end My
end
section
set_option maxHeartbeats 4000000
set_option synthInstance.maxSize 2000
namespace My
open PySem PySem.Spec PyProof.Rows L2 L3
section
variable {P : Program} {w : World} {K : PySem.W.Frag} {mg : Str → Option Value} {base : Heap}
theorem sc_l_redo : FnScope ["_law_history", "_law_before", "_law_after", "_law_refused", "_law_actual", "e"] ["_law_history", "_law_before", "_law_after"] (defScope (top 41)) := ⟨rfl, rfl, rfl, by decide +kernel, rfl, by decide +kernel, by decide +kernel⟩
theorem ok_l_redo {f : Addr} {fd : FuncData} (C : Ev P K mg) (FD : FnP K "_law_redo" (top 41) f fd) : FnOk P w K mg base CX0 3 f fd ["_law_history", "_law_before", "_law_after"] (SpN (fun (a : (V × ((List (Int ⊕ (Str ⊕ (List Str)))) × (List (Int ⊕ (Str ⊕ (List Str)))))) × (V × (List (Int ⊕ (Str ⊕ (List Str))))) × (V × (List (Int ⊕ (Str ⊕ (List Str)))))) => ([pV a.1.1, pV a.2.1.1, pV a.2.2.1] : List Pd)) (fun (a : (V × ((List (Int ⊕ (Str ⊕ (List Str)))) × (List (Int ⊕ (Str ⊕ (List Str)))))) × (V × (List (Int ⊕ (Str ⊕ (List Str))))) × (V × (List (Int ⊕ (Str ⊕ (List Str)))))) => ([⟨a.1.1, (O_History mg) a.1.2, some 0⟩, ⟨a.2.1.1, (oL (pSm pInt (pSm pStr (I_Unlike mg)))) a.2.1.2, some 1⟩, ⟨a.2.2.1, (oL (pSm pInt (pSm pStr (I_Unlike mg)))) a.2.2.2, some 2⟩] : List Cell)) (fun (a : (V × ((List (Int ⊕ (Str ⊕ (List Str)))) × (List (Int ⊕ (Str ⊕ (List Str)))))) × (V × (List (Int ⊕ (Str ⊕ (List Str))))) × (V × (List (Int ⊕ (Str ⊕ (List Str)))))) => M_l_redo a.1.2 a.2.1.2 a.2.2.2) (fun (a : (V × ((List (Int ⊕ (Str ⊕ (List Str)))) × (List (Int ⊕ (Str ⊕ (List Str)))))) × (V × (List (Int ⊕ (Str ⊕ (List Str))))) × (V × (List (Int ⊕ (Str ⊕ (List Str)))))) (r : Bool × ((List (Int ⊕ (Str ⊕ (List Str)))) × (List (Int ⊕ (Str ⊕ (List Str))))) × (List (Int ⊕ (Str ⊕ (List Str)))) × (List (Int ⊕ (Str ⊕ (List Str))))) => ([⟨a.1.1, (O_History mg) r.2.1, some 0⟩, ⟨a.2.1.1, (oL (pSm pInt (pSm pStr (I_Unlike mg)))) r.2.2.1, some 1⟩, ⟨a.2.2.1, (oL (pSm pInt (pSm pStr (I_Unlike mg)))) r.2.2.2, some 2⟩] : List Cell)) (fun (r : Bool × ((List (Int ⊕ (Str ⊕ (List Str)))) × (List (Int ⊕ (Str ⊕ (List Str))))) × (List (Int ⊕ (Str ⊕ (List Str)))) × (List (Int ⊕ (Str ⊕ (List Str))))) => pBl r.1)) := by
  obtain ⟨C_History, fI_History, fdI_History, gC_History, hC_History, hK_History, FI_History, n_History__done, n_History__undone⟩ := C.c_History
  have m_isinstance := C.m_isinstance
  have m_len := C.m_len
  obtain ⟨f_l_same_state, fd_l_same_state, F_l_same_state, g_l_same_state⟩ := C.f_l_same_state
  have k_l_same_state := ok_l_same_state (P := P) (w := w) (base := base) C F_l_same_state
  have b_l_same_state : Binds K fd_l_same_state ["_law_actual", "_law_due"] [] := F_l_same_state.bindsN fun _ _ _ _ _ _ us hl => match us, hl with | [_, _], _ => rfl
  obtain ⟨c_History_redo, f_History_redo, fd_History_redo, gc_History_redo, hc_History_redo, hm_History_redo, F_History_redo⟩ := C.f_History_redo
  have k_History_redo := ok_History_redo (P := P) (w := w) (base := base) C F_History_redo
  have b_History_redo : Binds K fd_History_redo ["self"] [] := F_History_redo.bindsN fun _ _ _ _ _ _ us hl => match us, hl with | [_], _ => rfl
  refine fn_N (A := (fun (a : (V × ((List (Int ⊕ (Str ⊕ (List Str)))) × (List (Int ⊕ (Str ⊕ (List Str)))))) × (V × (List (Int ⊕ (Str ⊕ (List Str))))) × (V × (List (Int ⊕ (Str ⊕ (List Str)))))) => ([pV a.1.1, pV a.2.1.1, pV a.2.2.1] : List Pd))) (C := (fun (a : (V × ((List (Int ⊕ (Str ⊕ (List Str)))) × (List (Int ⊕ (Str ⊕ (List Str)))))) × (V × (List (Int ⊕ (Str ⊕ (List Str))))) × (V × (List (Int ⊕ (Str ⊕ (List Str)))))) => ([⟨a.1.1, (O_History mg) a.1.2, some 0⟩, ⟨a.2.1.1, (oL (pSm pInt (pSm pStr (I_Unlike mg)))) a.2.1.2, some 1⟩, ⟨a.2.2.1, (oL (pSm pInt (pSm pStr (I_Unlike mg)))) a.2.2.2, some 2⟩] : List Cell))) (Mf := (fun (a : (V × ((List (Int ⊕ (Str ⊕ (List Str)))) × (List (Int ⊕ (Str ⊕ (List Str)))))) × (V × (List (Int ⊕ (Str ⊕ (List Str))))) × (V × (List (Int ⊕ (Str ⊕ (List Str)))))) => M_l_redo a.1.2 a.2.1.2 a.2.2.2)) (Cr := (fun (a : (V × ((List (Int ⊕ (Str ⊕ (List Str)))) × (List (Int ⊕ (Str ⊕ (List Str)))))) × (V × (List (Int ⊕ (Str ⊕ (List Str))))) × (V × (List (Int ⊕ (Str ⊕ (List Str)))))) (r : Bool × ((List (Int ⊕ (Str ⊕ (List Str)))) × (List (Int ⊕ (Str ⊕ (List Str))))) × (List (Int ⊕ (Str ⊕ (List Str)))) × (List (Int ⊕ (Str ⊕ (List Str))))) => ([⟨a.1.1, (O_History mg) r.2.1, some 0⟩, ⟨a.2.1.1, (oL (pSm pInt (pSm pStr (I_Unlike mg)))) r.2.2.1, some 1⟩, ⟨a.2.2.1, (oL (pSm pInt (pSm pStr (I_Unlike mg)))) r.2.2.2, some 2⟩] : List Cell))) FD sc_l_redo (fun _ => rfl) rfl (fun _ => ⟨rfl, rfl, rfl, trivial⟩) fun cdv A outer s H E hr Gs ⟨⟨v1, a1⟩, ⟨v2, a2⟩, ⟨v3, a3⟩⟩ => ?_
  exact s_is (s_T (T := (some (false : Bool)).bind fun x245 => (some ((none : Option (Int ⊕ (Str ⊕ (List Str)))) : Option (Int ⊕ (Str ⊕ (List Str))))).bind fun x247 => ((M_History_redo a1).bind (xK (fun e => Bo.tm ((Except.error) e)) fun r259 => (some ((some (r259.1)) : Option (Int ⊕ (Str ⊕ (List Str))))).bind fun x260 => some (Bo.nx (x245, x260, r259.2)))).bind (tryK (fun s249 => if (decide ((a3.length : Int) = (0 : Int))) = true then some (s249.1, s249.2.2, a2, a3) else (popL a3).bind fun q251 => grd (a2.length < sizeLine) (((if (!(s249.1)) = true then (atI (a2 ++ [q251.1]) (-(1 : Int))).bind fun x256 => (M_l_same_state (s249.2.1) x256).bind fun r257 => some (r257, ()) else some (false, ()))).bind fun c258 => some (c258.1, s249.2.2, (a2 ++ [q251.1]), q251.2))) id (fun e => subC e.cn "NothingToRedo") (fun e262 => if ((!(subC e262.cn "DeskError")) || (!(subC e262.cn "ValueError"))) = true then inB (some (false, a1, a2, a3)) else if ((["UnknownName", "RepeatedName", "UnknownValue", "RepeatedValue", "UnknownKey", "RepeatedKey", "EmptyRule"] : List Str).any (subC e262.cn)) = true then inB (some (false, a1, a2, a3)) else if ((["BadRow", "BadBounds", "BadNumber", "BadStep", "NoMark", "NotStruck", "BadOrder", "NotBare", "NoClash"] : List Str).any (subC e262.cn)) = true then inB (some (false, a1, a2, a3)) else if ((["HoldsAnswer", "BadLine", "UnknownLine", "BadText", "NothingToUndo", "UnknownStep", "BadDeed"] : List Str).any (subC e262.cn)) = true then inB (some (false, a1, a2, a3)) else (some (true : Bool)).bind fun x267 => some (Bo.nx (x267, x247, a1))) (fun _ => none))) (s_let (i := 3) pBl sc_l_redo.nd x_bl fun (b246 : Unit) x245 => s_T (T := (some ((none : Option (Int ⊕ (Str ⊕ (List Str)))) : Option (Int ⊕ (Str ⊕ (List Str))))).bind fun x247 => ((M_History_redo a1).bind (xK (fun e => Bo.tm ((Except.error) e)) fun r259 => (some ((some (r259.1)) : Option (Int ⊕ (Str ⊕ (List Str))))).bind fun x260 => some (Bo.nx (x245, x260, r259.2)))).bind (tryK (fun s249 => if (decide ((a3.length : Int) = (0 : Int))) = true then some (s249.1, s249.2.2, a2, a3) else (popL a3).bind fun q251 => grd (a2.length < sizeLine) (((if (!(s249.1)) = true then (atI (a2 ++ [q251.1]) (-(1 : Int))).bind fun x256 => (M_l_same_state (s249.2.1) x256).bind fun r257 => some (r257, ()) else some (false, ()))).bind fun c258 => some (c258.1, s249.2.2, (a2 ++ [q251.1]), q251.2))) id (fun e => subC e.cn "NothingToRedo") (fun e262 => if ((!(subC e262.cn "DeskError")) || (!(subC e262.cn "ValueError"))) = true then inB (some (false, a1, a2, a3)) else if ((["UnknownName", "RepeatedName", "UnknownValue", "RepeatedValue", "UnknownKey", "RepeatedKey", "EmptyRule"] : List Str).any (subC e262.cn)) = true then inB (some (false, a1, a2, a3)) else if ((["BadRow", "BadBounds", "BadNumber", "BadStep", "NoMark", "NotStruck", "BadOrder", "NotBare", "NoClash"] : List Str).any (subC e262.cn)) = true then inB (some (false, a1, a2, a3)) else if ((["HoldsAnswer", "BadLine", "UnknownLine", "BadText", "NothingToUndo", "UnknownStep", "BadDeed"] : List Str).any (subC e262.cn)) = true then inB (some (false, a1, a2, a3)) else (some (true : Bool)).bind fun x267 => some (Bo.nx (x267, x247, a1))) (fun _ => none))) (s_let (i := 4) (pOp (pSm pInt (pSm pStr (I_Unlike mg)))) sc_l_redo.nd (co_none (E := (pSm pInt (pSm pStr (I_Unlike mg)))) x_non) fun (b248 : Unit) x247 => s_T (T := ((M_History_redo a1).bind (xK (fun e => Bo.tm ((Except.error) e)) fun r259 => (some ((some (r259.1)) : Option (Int ⊕ (Str ⊕ (List Str))))).bind fun x260 => some (Bo.nx (x245, x260, r259.2)))).bind (tryK (fun s249 => if (decide ((a3.length : Int) = (0 : Int))) = true then some (s249.1, s249.2.2, a2, a3) else (popL a3).bind fun q251 => grd (a2.length < sizeLine) (((if (!(s249.1)) = true then (atI (a2 ++ [q251.1]) (-(1 : Int))).bind fun x256 => (M_l_same_state (s249.2.1) x256).bind fun r257 => some (r257, ()) else some (false, ()))).bind fun c258 => some (c258.1, s249.2.2, (a2 ++ [q251.1]), q251.2))) id (fun e => subC e.cn "NothingToRedo") (fun e262 => if ((!(subC e262.cn "DeskError")) || (!(subC e262.cn "ValueError"))) = true then inB (some (false, a1, a2, a3)) else if ((["UnknownName", "RepeatedName", "UnknownValue", "RepeatedValue", "UnknownKey", "RepeatedKey", "EmptyRule"] : List Str).any (subC e262.cn)) = true then inB (some (false, a1, a2, a3)) else if ((["BadRow", "BadBounds", "BadNumber", "BadStep", "NoMark", "NotStruck", "BadOrder", "NotBare", "NoClash"] : List Str).any (subC e262.cn)) = true then inB (some (false, a1, a2, a3)) else if ((["HoldsAnswer", "BadLine", "UnknownLine", "BadText", "NothingToUndo", "UnknownStep", "BadDeed"] : List Str).any (subC e262.cn)) = true then inB (some (false, a1, a2, a3)) else (some (true : Bool)).bind fun x267 => some (Bo.nx (x267, x247, a1))) (fun _ => none))) (s_try_as (Tf := (fF (RF ⟨H, Gs⟩ (fun (r : Bool × ((List (Int ⊕ (Str ⊕ (List Str)))) × (List (Int ⊕ (Str ⊕ (List Str))))) × (List (Int ⊕ (Str ⊕ (List Str)))) × (List (Int ⊕ (Str ⊕ (List Str))))) => [⟨v1, (O_History mg) r.2.1, some 0⟩, ⟨v2, (oL (pSm pInt (pSm pStr (I_Unlike mg)))) r.2.2.1, some 1⟩, ⟨v3, (oL (pSm pInt (pSm pStr (I_Unlike mg)))) r.2.2.2, some 2⟩]) (fun (r : Bool × ((List (Int ⊕ (Str ⊕ (List Str)))) × (List (Int ⊕ (Str ⊕ (List Str))))) × (List (Int ⊕ (Str ⊕ (List Str)))) × (List (Int ⊕ (Str ⊕ (List Str))))) => pBl r.1)))) (Ke := fun _ => none) (ι := id) (i := 5) (m := fun e => subC e.cn "NothingToRedo") (Kx := erX mg rsL) (fun s_ : Bool × (Option (Int ⊕ (Str ⊕ (List Str)))) × ((List (Int ⊕ (Str ⊕ (List Str)))) × (List (Int ⊕ (Str ⊕ (List Str))))) => ([some (pV v1), some (pV v2), some (pV v3), some (pBl s_.1), some ((pOp (pSm pInt (pSm pStr (I_Unlike mg)))) s_.2.1), none], [⟨v1, (O_History mg) s_.2.2, some 0⟩, ⟨v2, (oL (pSm pInt (pSm pStr (I_Unlike mg)))) a2, some 1⟩, ⟨v3, (oL (pSm pInt (pSm pStr (I_Unlike mg)))) a3, some 2⟩])) ([some (pV v1), some (pV v2), some (pV v3), some (pBl x245), some ((pOp (pSm pInt (pSm pStr (I_Unlike mg)))) x247), none]) ([⟨v1, (O_History mg) a1, some 0⟩, ⟨v2, (oL (pSm pInt (pSm pStr (I_Unlike mg)))) a2, some 1⟩, ⟨v3, (oL (pSm pInt (pSm pStr (I_Unlike mg)))) a3, some 2⟩]) sc_l_redo.nd (C.xs.names (by decide +kernel)) takes_no (C.xs.exms (by decide +kernel)) (by rfl) (fun W pn xe tkW po => s_T (T := (M_History_redo a1).bind (xK (fun e => Bo.tm ((Except.error) e)) fun r259 => (some ((some (r259.1)) : Option (Int ⊕ (Str ⊕ (List Str))))).bind fun x260 => some (Bo.nx (x245, x260, r259.2)))) (s_letX (i := 4) (pOp (pSm pInt (pSm pStr (I_Unlike mg)))) sc_l_redo.nd (x_wkX (E2 := fun (b_ : (Unit × ((Int ⊕ (Str ⊕ (List Str))) × ((List (Int ⊕ (Str ⊕ (List Str)))) × (List (Int ⊕ (Str ⊕ (List Str)))))))) => (pOp (pSm pInt (pSm pStr (I_Unlike mg)))) (some b_.2.1)) (x_XNM0 (kk := 1) (cn := "History") (xs := fun (b : Unit) => (v1, a1)) [some 0] _ 0 tkW gc_History_redo hc_History_redo hm_History_redo k_History_redo (hr.mono (by decide)) b_History_redo (x_var (p := pV v1) 0) (fun _ => rfl) (by decide +kernel) (fun _ => rfl) (fun _ _ _ ok => (ok.out (j := 0) rfl)) (fun _ _ _ _ ok => (ok.back (j := 0) rfl)) (fun _ _ _ ok => (ok.back (j := 0) rfl)) (hn := fun _ _ => ⟨rfl, trivial⟩) (hnx := fun _ => ⟨rfl, trivial⟩)) (fun _ _ _ h => by exact h)) (ex_B ex_X) (List.Sublist.refl _) (fun _ _ h => nm_wk h (by exact ⟨rfl, rfl, rfl, rfl, rfl, trivial⟩)) fun (b261 : (Unit × ((Int ⊕ (Str ⊕ (List Str))) × ((List (Int ⊕ (Str ⊕ (List Str)))) × (List (Int ⊕ (Str ⊕ (List Str)))))))) x260 => s_endB (x245, x260, b261.2.2) (by exact ⟨rfl, rfl, rfl, rfl, rfl, trivial⟩) (List.Sublist.refl _))) (fun a oe cls d pn hz hf e262 => s_T (T := if ((!(subC e262.cn "DeskError")) || (!(subC e262.cn "ValueError"))) = true then inB (some (false, a1, a2, a3)) else if ((["UnknownName", "RepeatedName", "UnknownValue", "RepeatedValue", "UnknownKey", "RepeatedKey", "EmptyRule"] : List Str).any (subC e262.cn)) = true then inB (some (false, a1, a2, a3)) else if ((["BadRow", "BadBounds", "BadNumber", "BadStep", "NoMark", "NotStruck", "BadOrder", "NotBare", "NoClash"] : List Str).any (subC e262.cn)) = true then inB (some (false, a1, a2, a3)) else if ((["HoldsAnswer", "BadLine", "UnknownLine", "BadText", "NothingToUndo", "UnknownStep", "BadDeed"] : List Str).any (subC e262.cn)) = true then inB (some (false, a1, a2, a3)) else (some (true : Bool)).bind fun x267 => some (Bo.nx (x267, x247, a1))) (s_ifB (ins_F _) (t_kd (c := fun (b_ : Unit) => ((!(subC e262.cn "DeskError")) || (!(subC e262.cn "ValueError")))) (PW.pt (w_or (t_totV (!(subC e262.cn "DeskError")) () (fun _ => rfl) (by exact (t_kd (c := fun (b_ : Unit) => (!(subC e262.cn "DeskError"))) (t_not (t_kd (c := fun (b_ : Unit) => (subC e262.cn "DeskError")) (t_val (x_kd (E := fun (b_ : Unit) => pBl (subC e262.cn "DeskError")) (x_isE1 (y := "DeskError") hz hf C.xs (by decide +kernel) m_isinstance (y_var (p := pExc (erX mg rsL) a cls d e262) 5))))))))) (w_or1 (t_totV (!(subC e262.cn "ValueError")) () (fun _ => rfl) (by exact (t_kd (c := fun (b_ : Unit) => (!(subC e262.cn "ValueError"))) (t_not (t_kd (c := fun (b_ : Unit) => (subC e262.cn "ValueError")) (t_val (x_kd (E := fun (b_ : Unit) => pBl (subC e262.cn "ValueError")) (x_isE1 (y := "ValueError") hz hf C.xs (by decide +kernel) m_isinstance (y_var (p := pExc (erX mg rsL) a cls d e262) 5))))))))))))) (fun (b263 : Unit) => s_T (T := some (false, a1, a2, a3)) (s_ret (P := (fun (r : Bool × ((List (Int ⊕ (Str ⊕ (List Str)))) × (List (Int ⊕ (Str ⊕ (List Str))))) × (List (Int ⊕ (Str ⊕ (List Str)))) × (List (Int ⊕ (Str ⊕ (List Str))))) => [⟨v1, (O_History mg) r.2.1, some 0⟩, ⟨v2, (oL (pSm pInt (pSm pStr (I_Unlike mg)))) r.2.2.1, some 1⟩, ⟨v3, (oL (pSm pInt (pSm pStr (I_Unlike mg)))) r.2.2.2, some 2⟩])) (Rp := (fun (r : Bool × ((List (Int ⊕ (Str ⊕ (List Str)))) × (List (Int ⊕ (Str ⊕ (List Str))))) × (List (Int ⊕ (Str ⊕ (List Str)))) × (List (Int ⊕ (Str ⊕ (List Str))))) => pBl r.1)) (ι := id) (rv := fun (b : Unit) => (false, a1, a2, a3)) (fun _ _ _ h => by exact h) x_bl (fun _ => List.Sublist.refl _))) fun (b263 : Unit) => s_T (T := if ((["UnknownName", "RepeatedName", "UnknownValue", "RepeatedValue", "UnknownKey", "RepeatedKey", "EmptyRule"] : List Str).any (subC e262.cn)) = true then inB (some (false, a1, a2, a3)) else if ((["BadRow", "BadBounds", "BadNumber", "BadStep", "NoMark", "NotStruck", "BadOrder", "NotBare", "NoClash"] : List Str).any (subC e262.cn)) = true then inB (some (false, a1, a2, a3)) else if ((["HoldsAnswer", "BadLine", "UnknownLine", "BadText", "NothingToUndo", "UnknownStep", "BadDeed"] : List Str).any (subC e262.cn)) = true then inB (some (false, a1, a2, a3)) else (some (true : Bool)).bind fun x267 => some (Bo.nx (x267, x247, a1))) (s_ifB (ins_F _) (t_kd (c := fun (b_ : Unit) => ((["UnknownName", "RepeatedName", "UnknownValue", "RepeatedValue", "UnknownKey", "RepeatedKey", "EmptyRule"] : List Str).any (subC e262.cn))) (t_val (x_kd (E := fun (b_ : Unit) => pBl ((["UnknownName", "RepeatedName", "UnknownValue", "RepeatedValue", "UnknownKey", "RepeatedKey", "EmptyRule"] : List Str).any (subC e262.cn))) (x_isEC ["UnknownName", "RepeatedName", "UnknownValue", "RepeatedValue", "UnknownKey", "RepeatedKey", "EmptyRule"] hz hf C.xs (by decide +kernel) (by decide) m_isinstance (x_var (p := pExc (erX mg rsL) a cls d e262) 5) (fun _ => (c_cons C.xs (by decide +kernel) (c_cons C.xs (by decide +kernel) (c_cons C.xs (by decide +kernel) (c_cons C.xs (by decide +kernel) (c_cons C.xs (by decide +kernel) (c_cons C.xs (by decide +kernel) (c_cons C.xs (by decide +kernel) c_nil)))))))))))) (fun (b264 : Unit) => s_T (T := some (false, a1, a2, a3)) (s_ret (P := (fun (r : Bool × ((List (Int ⊕ (Str ⊕ (List Str)))) × (List (Int ⊕ (Str ⊕ (List Str))))) × (List (Int ⊕ (Str ⊕ (List Str)))) × (List (Int ⊕ (Str ⊕ (List Str))))) => [⟨v1, (O_History mg) r.2.1, some 0⟩, ⟨v2, (oL (pSm pInt (pSm pStr (I_Unlike mg)))) r.2.2.1, some 1⟩, ⟨v3, (oL (pSm pInt (pSm pStr (I_Unlike mg)))) r.2.2.2, some 2⟩])) (Rp := (fun (r : Bool × ((List (Int ⊕ (Str ⊕ (List Str)))) × (List (Int ⊕ (Str ⊕ (List Str))))) × (List (Int ⊕ (Str ⊕ (List Str)))) × (List (Int ⊕ (Str ⊕ (List Str))))) => pBl r.1)) (ι := id) (rv := fun (b : Unit) => (false, a1, a2, a3)) (fun _ _ _ h => by exact h) x_bl (fun _ => List.Sublist.refl _))) fun (b264 : Unit) => s_T (T := if ((["BadRow", "BadBounds", "BadNumber", "BadStep", "NoMark", "NotStruck", "BadOrder", "NotBare", "NoClash"] : List Str).any (subC e262.cn)) = true then inB (some (false, a1, a2, a3)) else if ((["HoldsAnswer", "BadLine", "UnknownLine", "BadText", "NothingToUndo", "UnknownStep", "BadDeed"] : List Str).any (subC e262.cn)) = true then inB (some (false, a1, a2, a3)) else (some (true : Bool)).bind fun x267 => some (Bo.nx (x267, x247, a1))) (s_ifB (ins_F _) (t_kd (c := fun (b_ : Unit) => ((["BadRow", "BadBounds", "BadNumber", "BadStep", "NoMark", "NotStruck", "BadOrder", "NotBare", "NoClash"] : List Str).any (subC e262.cn))) (t_val (x_kd (E := fun (b_ : Unit) => pBl ((["BadRow", "BadBounds", "BadNumber", "BadStep", "NoMark", "NotStruck", "BadOrder", "NotBare", "NoClash"] : List Str).any (subC e262.cn))) (x_isEC ["BadRow", "BadBounds", "BadNumber", "BadStep", "NoMark", "NotStruck", "BadOrder", "NotBare", "NoClash"] hz hf C.xs (by decide +kernel) (by decide) m_isinstance (x_var (p := pExc (erX mg rsL) a cls d e262) 5) (fun _ => (c_cons C.xs (by decide +kernel) (c_cons C.xs (by decide +kernel) (c_cons C.xs (by decide +kernel) (c_cons C.xs (by decide +kernel) (c_cons C.xs (by decide +kernel) (c_cons C.xs (by decide +kernel) (c_cons C.xs (by decide +kernel) (c_cons C.xs (by decide +kernel) (c_cons C.xs (by decide +kernel) c_nil)))))))))))))) (fun (b265 : Unit) => s_T (T := some (false, a1, a2, a3)) (s_ret (P := (fun (r : Bool × ((List (Int ⊕ (Str ⊕ (List Str)))) × (List (Int ⊕ (Str ⊕ (List Str))))) × (List (Int ⊕ (Str ⊕ (List Str)))) × (List (Int ⊕ (Str ⊕ (List Str))))) => [⟨v1, (O_History mg) r.2.1, some 0⟩, ⟨v2, (oL (pSm pInt (pSm pStr (I_Unlike mg)))) r.2.2.1, some 1⟩, ⟨v3, (oL (pSm pInt (pSm pStr (I_Unlike mg)))) r.2.2.2, some 2⟩])) (Rp := (fun (r : Bool × ((List (Int ⊕ (Str ⊕ (List Str)))) × (List (Int ⊕ (Str ⊕ (List Str))))) × (List (Int ⊕ (Str ⊕ (List Str)))) × (List (Int ⊕ (Str ⊕ (List Str))))) => pBl r.1)) (ι := id) (rv := fun (b : Unit) => (false, a1, a2, a3)) (fun _ _ _ h => by exact h) x_bl (fun _ => List.Sublist.refl _))) fun (b265 : Unit) => s_T (T := if ((["HoldsAnswer", "BadLine", "UnknownLine", "BadText", "NothingToUndo", "UnknownStep", "BadDeed"] : List Str).any (subC e262.cn)) = true then inB (some (false, a1, a2, a3)) else (some (true : Bool)).bind fun x267 => some (Bo.nx (x267, x247, a1))) (s_ifB (ins_F _) (t_kd (c := fun (b_ : Unit) => ((["HoldsAnswer", "BadLine", "UnknownLine", "BadText", "NothingToUndo", "UnknownStep", "BadDeed"] : List Str).any (subC e262.cn))) (t_val (x_kd (E := fun (b_ : Unit) => pBl ((["HoldsAnswer", "BadLine", "UnknownLine", "BadText", "NothingToUndo", "UnknownStep", "BadDeed"] : List Str).any (subC e262.cn))) (x_isEC ["HoldsAnswer", "BadLine", "UnknownLine", "BadText", "NothingToUndo", "UnknownStep", "BadDeed"] hz hf C.xs (by decide +kernel) (by decide) m_isinstance (x_var (p := pExc (erX mg rsL) a cls d e262) 5) (fun _ => (c_cons C.xs (by decide +kernel) (c_cons C.xs (by decide +kernel) (c_cons C.xs (by decide +kernel) (c_cons C.xs (by decide +kernel) (c_cons C.xs (by decide +kernel) (c_cons C.xs (by decide +kernel) (c_cons C.xs (by decide +kernel) c_nil)))))))))))) (fun (b266 : Unit) => s_T (T := some (false, a1, a2, a3)) (s_ret (P := (fun (r : Bool × ((List (Int ⊕ (Str ⊕ (List Str)))) × (List (Int ⊕ (Str ⊕ (List Str))))) × (List (Int ⊕ (Str ⊕ (List Str)))) × (List (Int ⊕ (Str ⊕ (List Str))))) => [⟨v1, (O_History mg) r.2.1, some 0⟩, ⟨v2, (oL (pSm pInt (pSm pStr (I_Unlike mg)))) r.2.2.1, some 1⟩, ⟨v3, (oL (pSm pInt (pSm pStr (I_Unlike mg)))) r.2.2.2, some 2⟩])) (Rp := (fun (r : Bool × ((List (Int ⊕ (Str ⊕ (List Str)))) × (List (Int ⊕ (Str ⊕ (List Str))))) × (List (Int ⊕ (Str ⊕ (List Str)))) × (List (Int ⊕ (Str ⊕ (List Str))))) => pBl r.1)) (ι := id) (rv := fun (b : Unit) => (false, a1, a2, a3)) (fun _ _ _ h => by exact h) x_bl (fun _ => List.Sublist.refl _))) fun (b266 : Unit) => s_T (T := (some (true : Bool)).bind fun x267 => some (Bo.nx (x267, x247, a1))) (s_let (i := 3) pBl sc_l_redo.nd x_bl fun (b268 : Unit) x267 => s_endB (x267, x247, a1) (by exact ⟨rfl, rfl, rfl, rfl, rfl, trivial⟩) (List.Sublist.refl _))))))) (fun s249 => s_T (T := if (decide ((a3.length : Int) = (0 : Int))) = true then some (s249.1, s249.2.2, a2, a3) else (popL a3).bind fun q251 => grd (a2.length < sizeLine) (((if (!(s249.1)) = true then (atI (a2 ++ [q251.1]) (-(1 : Int))).bind fun x256 => (M_l_same_state (s249.2.1) x256).bind fun r257 => some (r257, ()) else some (false, ()))).bind fun c258 => some (c258.1, s249.2.2, (a2 ++ [q251.1]), q251.2))) (s_ifT (ins_F _) (t_kd (c := fun (b_ : (Unit × Unit)) => (decide ((a3.length : Int) = (0 : Int)))) (t_eqI (x_kd (E := fun (b_ : Unit) => pInt (a3.length : Int)) (x_lenL (Ee := (pSm pInt (pSm pStr (I_Unlike mg)))) m_len (x_var (p := pV v3) 2) (fun _ => rdO 2))) (fun _ => x_int (i := 0)))) (fun (b250 : (Unit × Unit)) => s_T (T := some (s249.1, s249.2.2, a2, a3)) (s_ret (P := (fun (r : Bool × ((List (Int ⊕ (Str ⊕ (List Str)))) × (List (Int ⊕ (Str ⊕ (List Str))))) × (List (Int ⊕ (Str ⊕ (List Str)))) × (List (Int ⊕ (Str ⊕ (List Str))))) => [⟨v1, (O_History mg) r.2.1, some 0⟩, ⟨v2, (oL (pSm pInt (pSm pStr (I_Unlike mg)))) r.2.2.1, some 1⟩, ⟨v3, (oL (pSm pInt (pSm pStr (I_Unlike mg)))) r.2.2.2, some 2⟩])) (Rp := (fun (r : Bool × ((List (Int ⊕ (Str ⊕ (List Str)))) × (List (Int ⊕ (Str ⊕ (List Str))))) × (List (Int ⊕ (Str ⊕ (List Str)))) × (List (Int ⊕ (Str ⊕ (List Str))))) => pBl r.1)) (ι := id) (rv := fun (b : Unit) => (s249.1, s249.2.2, a2, a3)) (fun _ _ _ h => by exact h) (x_var (p := pBl s249.1) 3) (fun _ => List.Sublist.refl _))) fun (b250 : (Unit × Unit)) => s_T (T := (popL a3).bind fun q251 => grd (a2.length < sizeLine) (((if (!(s249.1)) = true then (atI (a2 ++ [q251.1]) (-(1 : Int))).bind fun x256 => (M_l_same_state (s249.2.1) x256).bind fun r257 => some (r257, ()) else some (false, ()))).bind fun c258 => some (c258.1, s249.2.2, (a2 ++ [q251.1]), q251.2))) (s_expr (x_app 1 (x_var (p := pV v2) 1) (fun _ => x_kd (E := fun (b_ : (Unit × ((Int ⊕ (Str ⊕ (List Str))) × List (Int ⊕ (Str ⊕ (List Str)))))) => (pSm pInt (pSm pStr (I_Unlike mg))) b_.2.1) (x_popF (Ee := (pSm pInt (pSm pStr (I_Unlike mg)))) 2 (f_var (D := (oL (pSm pInt (pSm pStr (I_Unlike mg))))) (x_var (p := pV v3) 2)))) (fun _ => rfl) (fun _ _ => rfl)) fun (b252 : (Unit × (Unit × ((Int ⊕ (Str ⊕ (List Str))) × List (Int ⊕ (Str ⊕ (List Str))))))) => s_T (T := ((if (!(s249.1)) = true then (atI (a2 ++ [b252.2.2.1]) (-(1 : Int))).bind fun x256 => (M_l_same_state (s249.2.1) x256).bind fun r257 => some (r257, ()) else some (false, ()))).bind fun c258 => some (c258.1, s249.2.2, (a2 ++ [b252.2.2.1]), b252.2.2.2)) (s_ret (P := (fun (r : Bool × ((List (Int ⊕ (Str ⊕ (List Str)))) × (List (Int ⊕ (Str ⊕ (List Str))))) × (List (Int ⊕ (Str ⊕ (List Str)))) × (List (Int ⊕ (Str ⊕ (List Str))))) => [⟨v1, (O_History mg) r.2.1, some 0⟩, ⟨v2, (oL (pSm pInt (pSm pStr (I_Unlike mg)))) r.2.2.1, some 1⟩, ⟨v3, (oL (pSm pInt (pSm pStr (I_Unlike mg)))) r.2.2.2, some 2⟩])) (Rp := (fun (r : Bool × ((List (Int ⊕ (Str ⊕ (List Str)))) × (List (Int ⊕ (Str ⊕ (List Str))))) × (List (Int ⊕ (Str ⊕ (List Str)))) × (List (Int ⊕ (Str ⊕ (List Str))))) => pBl r.1)) (ι := id) (rv := fun (b : (Unit × (Bool × Unit))) => (b.2.1, s249.2.2, (a2 ++ [b252.2.2.1]), b252.2.2.2)) (fun _ _ _ h => by exact h) (x_kd (x_kd (E := fun (b_ : (Unit × (Bool × Unit))) => pBl b_.2.1) (v_andM (ΔS := fun (b_ : Unit) (s_ : Unit) => [⟨v1, (O_History mg) s249.2.2, some 0⟩, ⟨v2, (oL (pSm pInt (pSm pStr (I_Unlike mg)))) (a2 ++ [b252.2.2.1]), some 1⟩, ⟨v3, (oL (pSm pInt (pSm pStr (I_Unlike mg)))) b252.2.2.2, some 2⟩]) (s1 := fun (b_ : Unit) => ()) (s2 := fun (b_ : Unit) (c_ : ((Unit × ((Unit × Unit) × (Int ⊕ (Str ⊕ (List Str))))) × Bool)) => ()) (x_kd (E := fun (b_ : Unit) => pBl (!(s249.1))) (x_not (x_var (p := pBl s249.1) 3))) (fun (b255 : Unit) => v_one (x_kd (E := fun (b_ : ((Unit × ((Unit × Unit) × (Int ⊕ (Str ⊕ (List Str))))) × Bool)) => pBl b_.2) (x_FF_f (kk := 2) (E1 := (pOp (pSm pInt (pSm pStr (I_Unlike mg))))) (E2 := (pSm pInt (pSm pStr (I_Unlike mg)))) k_l_same_state (hr.mono (by decide)) g_l_same_state F_l_same_state.kp b_l_same_state (x_var (p := (pOp (pSm pInt (pSm pStr (I_Unlike mg)))) s249.2.1) 4) (fun _ => x_kd (E := fun (b_ : ((Unit × Unit) × (Int ⊕ (Str ⊕ (List Str))))) => (pSm pInt (pSm pStr (I_Unlike mg))) b_.2) (x_ixL (Ee := (pSm pInt (pSm pStr (I_Unlike mg)))) (x_var (p := pV v2) 1) (fun _ => x_kd (E := fun (b_ : Unit) => pInt (-(1 : Int))) (x_neg (x_int (i := 1)))) (fun _ _ => rdO 1)))))) (fun _ => rfl) (fun _ _ => rfl)))) (fun _ => List.Sublist.refl _))))) (fun _ _ _ h => by exact h) (ins_F _) (uns_F _) (fun _ => rfl) (fun _ _ _ _ _ h => nomatch h))))) (by unfold M_l_redo; rfl)
end
end My
end
section
set_option maxHeartbeats 4000000
set_option synthInstance.maxSize 2000
namespace My
open PySem PySem.Spec PyProof.Rows L2 L3
section
variable {P : Program} {w : World} {K : PySem.W.Frag} {mg : Str → Option Value} {base : Heap}
theorem sc_l_back : FnScope ["_law_history", "_law_before", "_law_after", "_law_target", "_law_refused", "_law_actual", "_law_turn", "e"] ["_law_history", "_law_before", "_law_after", "_law_target"] (defScope (top 42)) := ⟨rfl, rfl, rfl, by decide +kernel, rfl, by decide +kernel, by decide +kernel⟩
theorem ok_l_back {f : Addr} {fd : FuncData} (C : Ev P K mg) (FD : FnP K "_law_back" (top 42) f fd) : FnOk P w K mg base CX0 3 f fd ["_law_history", "_law_before", "_law_after", "_law_target"] (SpN (fun (a : (V × ((List (Int ⊕ (Str ⊕ (List Str)))) × (List (Int ⊕ (Str ⊕ (List Str)))))) × (V × (List (Int ⊕ (Str ⊕ (List Str))))) × (V × (List (Int ⊕ (Str ⊕ (List Str))))) × Int) => ([pV a.1.1, pV a.2.1.1, pV a.2.2.1.1, pInt a.2.2.2] : List Pd)) (fun (a : (V × ((List (Int ⊕ (Str ⊕ (List Str)))) × (List (Int ⊕ (Str ⊕ (List Str)))))) × (V × (List (Int ⊕ (Str ⊕ (List Str))))) × (V × (List (Int ⊕ (Str ⊕ (List Str))))) × Int) => ([⟨a.1.1, (O_History mg) a.1.2, some 0⟩, ⟨a.2.1.1, (oL (pSm pInt (pSm pStr (I_Unlike mg)))) a.2.1.2, some 1⟩, ⟨a.2.2.1.1, (oL (pSm pInt (pSm pStr (I_Unlike mg)))) a.2.2.1.2, some 2⟩] : List Cell)) (fun (a : (V × ((List (Int ⊕ (Str ⊕ (List Str)))) × (List (Int ⊕ (Str ⊕ (List Str)))))) × (V × (List (Int ⊕ (Str ⊕ (List Str))))) × (V × (List (Int ⊕ (Str ⊕ (List Str))))) × Int) => M_l_back a.1.2 a.2.1.2 a.2.2.1.2 a.2.2.2) (fun (a : (V × ((List (Int ⊕ (Str ⊕ (List Str)))) × (List (Int ⊕ (Str ⊕ (List Str)))))) × (V × (List (Int ⊕ (Str ⊕ (List Str))))) × (V × (List (Int ⊕ (Str ⊕ (List Str))))) × Int) (r : Bool × ((List (Int ⊕ (Str ⊕ (List Str)))) × (List (Int ⊕ (Str ⊕ (List Str))))) × (List (Int ⊕ (Str ⊕ (List Str)))) × (List (Int ⊕ (Str ⊕ (List Str))))) => ([⟨a.1.1, (O_History mg) r.2.1, some 0⟩, ⟨a.2.1.1, (oL (pSm pInt (pSm pStr (I_Unlike mg)))) r.2.2.1, some 1⟩, ⟨a.2.2.1.1, (oL (pSm pInt (pSm pStr (I_Unlike mg)))) r.2.2.2, some 2⟩] : List Cell)) (fun (r : Bool × ((List (Int ⊕ (Str ⊕ (List Str)))) × (List (Int ⊕ (Str ⊕ (List Str))))) × (List (Int ⊕ (Str ⊕ (List Str)))) × (List (Int ⊕ (Str ⊕ (List Str))))) => pBl r.1)) := by
  obtain ⟨C_History, fI_History, fdI_History, gC_History, hC_History, hK_History, FI_History, n_History__done, n_History__undone⟩ := C.c_History
  have m_isinstance := C.m_isinstance
  have m_len := C.m_len
  have m_range := C.m_range
  obtain ⟨f_l_same_state, fd_l_same_state, F_l_same_state, g_l_same_state⟩ := C.f_l_same_state
  have k_l_same_state := ok_l_same_state (P := P) (w := w) (base := base) C F_l_same_state
  have b_l_same_state : Binds K fd_l_same_state ["_law_actual", "_law_due"] [] := F_l_same_state.bindsN fun _ _ _ _ _ _ us hl => match us, hl with | [_, _], _ => rfl
  obtain ⟨c_History_back_to, f_History_back_to, fd_History_back_to, gc_History_back_to, hc_History_back_to, hm_History_back_to, F_History_back_to⟩ := C.f_History_back_to
  have k_History_back_to := ok_History_back_to (P := P) (w := w) (base := base) C F_History_back_to
  have b_History_back_to : Binds K fd_History_back_to ["self", "steps"] [] := F_History_back_to.bindsN fun _ _ _ _ _ _ us hl => match us, hl with | [_, _], _ => rfl
  obtain ⟨f_l_is_integer, fd_l_is_integer, F_l_is_integer, g_l_is_integer⟩ := C.f_l_is_integer
  have k_l_is_integer := ok_l_is_integer (P := P) (w := w) (base := base) C F_l_is_integer
  have kq_l_is_integer := okq_l_is_integer (P := P) (w := w) (base := base) C F_l_is_integer
  have b_l_is_integer : Binds K fd_l_is_integer ["_law_actual"] [] := F_l_is_integer.bindsN fun _ _ _ _ _ _ us hl => match us, hl with | [_], _ => rfl
  refine fn_N (A := (fun (a : (V × ((List (Int ⊕ (Str ⊕ (List Str)))) × (List (Int ⊕ (Str ⊕ (List Str)))))) × (V × (List (Int ⊕ (Str ⊕ (List Str))))) × (V × (List (Int ⊕ (Str ⊕ (List Str))))) × Int) => ([pV a.1.1, pV a.2.1.1, pV a.2.2.1.1, pInt a.2.2.2] : List Pd))) (C := (fun (a : (V × ((List (Int ⊕ (Str ⊕ (List Str)))) × (List (Int ⊕ (Str ⊕ (List Str)))))) × (V × (List (Int ⊕ (Str ⊕ (List Str))))) × (V × (List (Int ⊕ (Str ⊕ (List Str))))) × Int) => ([⟨a.1.1, (O_History mg) a.1.2, some 0⟩, ⟨a.2.1.1, (oL (pSm pInt (pSm pStr (I_Unlike mg)))) a.2.1.2, some 1⟩, ⟨a.2.2.1.1, (oL (pSm pInt (pSm pStr (I_Unlike mg)))) a.2.2.1.2, some 2⟩] : List Cell))) (Mf := (fun (a : (V × ((List (Int ⊕ (Str ⊕ (List Str)))) × (List (Int ⊕ (Str ⊕ (List Str)))))) × (V × (List (Int ⊕ (Str ⊕ (List Str))))) × (V × (List (Int ⊕ (Str ⊕ (List Str))))) × Int) => M_l_back a.1.2 a.2.1.2 a.2.2.1.2 a.2.2.2)) (Cr := (fun (a : (V × ((List (Int ⊕ (Str ⊕ (List Str)))) × (List (Int ⊕ (Str ⊕ (List Str)))))) × (V × (List (Int ⊕ (Str ⊕ (List Str))))) × (V × (List (Int ⊕ (Str ⊕ (List Str))))) × Int) (r : Bool × ((List (Int ⊕ (Str ⊕ (List Str)))) × (List (Int ⊕ (Str ⊕ (List Str))))) × (List (Int ⊕ (Str ⊕ (List Str)))) × (List (Int ⊕ (Str ⊕ (List Str))))) => ([⟨a.1.1, (O_History mg) r.2.1, some 0⟩, ⟨a.2.1.1, (oL (pSm pInt (pSm pStr (I_Unlike mg)))) r.2.2.1, some 1⟩, ⟨a.2.2.1.1, (oL (pSm pInt (pSm pStr (I_Unlike mg)))) r.2.2.2, some 2⟩] : List Cell))) FD sc_l_back (fun _ => rfl) rfl (fun _ => ⟨rfl, rfl, rfl, trivial⟩) fun cdv A outer s H E hr Gs ⟨⟨v1, a1⟩, ⟨v2, a2⟩, ⟨v3, a3⟩, a4⟩ => ?_
  exact s_is (s_T (T := (some (false : Bool)).bind fun x269 => (some ((none : Option (Int ⊕ (Str ⊕ (List Str)))) : Option (Int ⊕ (Str ⊕ (List Str))))).bind fun x271 => ((M_History_back_to a1 a4).bind (xK (fun e => Bo.tm ((Except.error) e)) fun r287 => (some ((some (r287.1)) : Option (Int ⊕ (Str ⊕ (List Str))))).bind fun x288 => some (Bo.nx (x269, x288, r287.2)))).bind (tryK (fun s273 => if ((decide (a4 < (0 : Int))) || (decide ((a2.length : Int) ≤ a4))) = true then some (s273.1, s273.2.2, a2, a3) else grd (rg (((a2.length : Int) - (1 : Int)) - a4) = true) ((forS (rngL 0 (((a2.length : Int) - (1 : Int)) - a4).toNat) ((a2, a3) : (List (Int ⊕ (Str ⊕ (List Str)))) × (List (Int ⊕ (Str ⊕ (List Str))))) fun x277 s276 => (popL (s276.1)).bind fun q285 => grd ((s276.2).length < sizeLine) (some (q285.2, ((s276.2) ++ [q285.1])))).bind fun s278 => ((if (!(s273.1)) = true then (atI (s278.1) (-(1 : Int))).bind fun x282 => (M_l_same_state (s273.2.1) x282).bind fun r283 => some (r283, ()) else some (false, ()))).bind fun c284 => some (c284.1, s273.2.2, s278.1, s278.2))) id (fun e => subC e.cn "UnknownStep") (fun e290 => if ((!(subC e290.cn "DeskError")) || (!(subC e290.cn "ValueError"))) = true then inB (some (false, a1, a2, a3)) else if ((["UnknownName", "RepeatedName", "UnknownValue", "RepeatedValue", "UnknownKey", "RepeatedKey", "EmptyRule"] : List Str).any (subC e290.cn)) = true then inB (some (false, a1, a2, a3)) else if ((["BadRow", "BadBounds", "BadNumber", "BadStep", "NoMark", "NotStruck", "BadOrder", "NotBare", "NoClash"] : List Str).any (subC e290.cn)) = true then inB (some (false, a1, a2, a3)) else if ((["HoldsAnswer", "BadLine", "UnknownLine", "BadText", "NothingToUndo", "NothingToRedo", "BadDeed"] : List Str).any (subC e290.cn)) = true then inB (some (false, a1, a2, a3)) else (erF e290 "number").bind fun y295 => (FV.int? y295).bind fun z296 => (M_l_is_integer z296).bind fun r297 => ((if (!r297) = true then some (true, ()) else (erF e290 "number").bind fun y301 => (FV.int? y301).bind fun z302 => some ((!decide (z302 = a4)), ()))).bind fun c303 => if c303.1 = true then inB (some (false, a1, a2, a3)) else (some (true : Bool)).bind fun x305 => some (Bo.nx (x305, x271, a1))) (fun _ => none))) (s_let (i := 4) pBl sc_l_back.nd x_bl fun (b270 : Unit) x269 => s_T (T := (some ((none : Option (Int ⊕ (Str ⊕ (List Str)))) : Option (Int ⊕ (Str ⊕ (List Str))))).bind fun x271 => ((M_History_back_to a1 a4).bind (xK (fun e => Bo.tm ((Except.error) e)) fun r287 => (some ((some (r287.1)) : Option (Int ⊕ (Str ⊕ (List Str))))).bind fun x288 => some (Bo.nx (x269, x288, r287.2)))).bind (tryK (fun s273 => if ((decide (a4 < (0 : Int))) || (decide ((a2.length : Int) ≤ a4))) = true then some (s273.1, s273.2.2, a2, a3) else grd (rg (((a2.length : Int) - (1 : Int)) - a4) = true) ((forS (rngL 0 (((a2.length : Int) - (1 : Int)) - a4).toNat) ((a2, a3) : (List (Int ⊕ (Str ⊕ (List Str)))) × (List (Int ⊕ (Str ⊕ (List Str))))) fun x277 s276 => (popL (s276.1)).bind fun q285 => grd ((s276.2).length < sizeLine) (some (q285.2, ((s276.2) ++ [q285.1])))).bind fun s278 => ((if (!(s273.1)) = true then (atI (s278.1) (-(1 : Int))).bind fun x282 => (M_l_same_state (s273.2.1) x282).bind fun r283 => some (r283, ()) else some (false, ()))).bind fun c284 => some (c284.1, s273.2.2, s278.1, s278.2))) id (fun e => subC e.cn "UnknownStep") (fun e290 => if ((!(subC e290.cn "DeskError")) || (!(subC e290.cn "ValueError"))) = true then inB (some (false, a1, a2, a3)) else if ((["UnknownName", "RepeatedName", "UnknownValue", "RepeatedValue", "UnknownKey", "RepeatedKey", "EmptyRule"] : List Str).any (subC e290.cn)) = true then inB (some (false, a1, a2, a3)) else if ((["BadRow", "BadBounds", "BadNumber", "BadStep", "NoMark", "NotStruck", "BadOrder", "NotBare", "NoClash"] : List Str).any (subC e290.cn)) = true then inB (some (false, a1, a2, a3)) else if ((["HoldsAnswer", "BadLine", "UnknownLine", "BadText", "NothingToUndo", "NothingToRedo", "BadDeed"] : List Str).any (subC e290.cn)) = true then inB (some (false, a1, a2, a3)) else (erF e290 "number").bind fun y295 => (FV.int? y295).bind fun z296 => (M_l_is_integer z296).bind fun r297 => ((if (!r297) = true then some (true, ()) else (erF e290 "number").bind fun y301 => (FV.int? y301).bind fun z302 => some ((!decide (z302 = a4)), ()))).bind fun c303 => if c303.1 = true then inB (some (false, a1, a2, a3)) else (some (true : Bool)).bind fun x305 => some (Bo.nx (x305, x271, a1))) (fun _ => none))) (s_let (i := 5) (pOp (pSm pInt (pSm pStr (I_Unlike mg)))) sc_l_back.nd (co_none (E := (pSm pInt (pSm pStr (I_Unlike mg)))) x_non) fun (b272 : Unit) x271 => s_T (T := ((M_History_back_to a1 a4).bind (xK (fun e => Bo.tm ((Except.error) e)) fun r287 => (some ((some (r287.1)) : Option (Int ⊕ (Str ⊕ (List Str))))).bind fun x288 => some (Bo.nx (x269, x288, r287.2)))).bind (tryK (fun s273 => if ((decide (a4 < (0 : Int))) || (decide ((a2.length : Int) ≤ a4))) = true then some (s273.1, s273.2.2, a2, a3) else grd (rg (((a2.length : Int) - (1 : Int)) - a4) = true) ((forS (rngL 0 (((a2.length : Int) - (1 : Int)) - a4).toNat) ((a2, a3) : (List (Int ⊕ (Str ⊕ (List Str)))) × (List (Int ⊕ (Str ⊕ (List Str))))) fun x277 s276 => (popL (s276.1)).bind fun q285 => grd ((s276.2).length < sizeLine) (some (q285.2, ((s276.2) ++ [q285.1])))).bind fun s278 => ((if (!(s273.1)) = true then (atI (s278.1) (-(1 : Int))).bind fun x282 => (M_l_same_state (s273.2.1) x282).bind fun r283 => some (r283, ()) else some (false, ()))).bind fun c284 => some (c284.1, s273.2.2, s278.1, s278.2))) id (fun e => subC e.cn "UnknownStep") (fun e290 => if ((!(subC e290.cn "DeskError")) || (!(subC e290.cn "ValueError"))) = true then inB (some (false, a1, a2, a3)) else if ((["UnknownName", "RepeatedName", "UnknownValue", "RepeatedValue", "UnknownKey", "RepeatedKey", "EmptyRule"] : List Str).any (subC e290.cn)) = true then inB (some (false, a1, a2, a3)) else if ((["BadRow", "BadBounds", "BadNumber", "BadStep", "NoMark", "NotStruck", "BadOrder", "NotBare", "NoClash"] : List Str).any (subC e290.cn)) = true then inB (some (false, a1, a2, a3)) else if ((["HoldsAnswer", "BadLine", "UnknownLine", "BadText", "NothingToUndo", "NothingToRedo", "BadDeed"] : List Str).any (subC e290.cn)) = true then inB (some (false, a1, a2, a3)) else (erF e290 "number").bind fun y295 => (FV.int? y295).bind fun z296 => (M_l_is_integer z296).bind fun r297 => ((if (!r297) = true then some (true, ()) else (erF e290 "number").bind fun y301 => (FV.int? y301).bind fun z302 => some ((!decide (z302 = a4)), ()))).bind fun c303 => if c303.1 = true then inB (some (false, a1, a2, a3)) else (some (true : Bool)).bind fun x305 => some (Bo.nx (x305, x271, a1))) (fun _ => none))) (s_try_as (Tf := (fF (RF ⟨H, Gs⟩ (fun (r : Bool × ((List (Int ⊕ (Str ⊕ (List Str)))) × (List (Int ⊕ (Str ⊕ (List Str))))) × (List (Int ⊕ (Str ⊕ (List Str)))) × (List (Int ⊕ (Str ⊕ (List Str))))) => [⟨v1, (O_History mg) r.2.1, some 0⟩, ⟨v2, (oL (pSm pInt (pSm pStr (I_Unlike mg)))) r.2.2.1, some 1⟩, ⟨v3, (oL (pSm pInt (pSm pStr (I_Unlike mg)))) r.2.2.2, some 2⟩]) (fun (r : Bool × ((List (Int ⊕ (Str ⊕ (List Str)))) × (List (Int ⊕ (Str ⊕ (List Str))))) × (List (Int ⊕ (Str ⊕ (List Str)))) × (List (Int ⊕ (Str ⊕ (List Str))))) => pBl r.1)))) (Ke := fun _ => none) (ι := id) (i := 7) (m := fun e => subC e.cn "UnknownStep") (Kx := erX mg rsL) (fun s_ : Bool × (Option (Int ⊕ (Str ⊕ (List Str)))) × ((List (Int ⊕ (Str ⊕ (List Str)))) × (List (Int ⊕ (Str ⊕ (List Str))))) => ([some (pV v1), some (pV v2), some (pV v3), some (pInt a4), some (pBl s_.1), some ((pOp (pSm pInt (pSm pStr (I_Unlike mg)))) s_.2.1), none, none], [⟨v1, (O_History mg) s_.2.2, some 0⟩, ⟨v2, (oL (pSm pInt (pSm pStr (I_Unlike mg)))) a2, some 1⟩, ⟨v3, (oL (pSm pInt (pSm pStr (I_Unlike mg)))) a3, some 2⟩])) ([some (pV v1), some (pV v2), some (pV v3), some (pInt a4), some (pBl x269), some ((pOp (pSm pInt (pSm pStr (I_Unlike mg)))) x271), none, none]) ([⟨v1, (O_History mg) a1, some 0⟩, ⟨v2, (oL (pSm pInt (pSm pStr (I_Unlike mg)))) a2, some 1⟩, ⟨v3, (oL (pSm pInt (pSm pStr (I_Unlike mg)))) a3, some 2⟩]) sc_l_back.nd (C.xs.names (by decide +kernel)) takes_no (C.xs.exms (by decide +kernel)) (by rfl) (fun W pn xe tkW po => s_T (T := (M_History_back_to a1 a4).bind (xK (fun e => Bo.tm ((Except.error) e)) fun r287 => (some ((some (r287.1)) : Option (Int ⊕ (Str ⊕ (List Str))))).bind fun x288 => some (Bo.nx (x269, x288, r287.2)))) (s_letX (i := 5) (pOp (pSm pInt (pSm pStr (I_Unlike mg)))) sc_l_back.nd (x_wkX (E2 := fun (b_ : ((Unit × (Unit × Unit)) × ((Int ⊕ (Str ⊕ (List Str))) × ((List (Int ⊕ (Str ⊕ (List Str)))) × (List (Int ⊕ (Str ⊕ (List Str)))))))) => (pOp (pSm pInt (pSm pStr (I_Unlike mg)))) (some b_.2.1)) (x_XNM (kk := 1) (cn := "History") (xs := fun (_ : Unit) (b : (Unit × Unit)) => ((v1, a1), a4)) [some 0] _ 0 tkW gc_History_back_to hc_History_back_to hm_History_back_to k_History_back_to (hr.mono (by decide)) b_History_back_to (x_var (p := pV v1) 0) (fun _ => rfl) (by decide +kernel) (fun _ => a_cons (x_var (p := pInt a4) 3) (fun _ => a_nil)) (fun _ _ => rfl) (fun _ _ _ _ ok => (ok.out (j := 0) rfl)) (fun _ _ _ _ _ ok => (ok.back (j := 0) rfl)) (fun _ _ _ _ ok => (ok.back (j := 0) rfl)) (hn := fun _ _ => ⟨rfl, trivial⟩) (hnx := fun _ => ⟨rfl, trivial⟩)) (fun _ _ _ h => by exact h)) (ex_B ex_X) (List.Sublist.refl _) (fun _ _ h => nm_wk h (by exact ⟨rfl, rfl, rfl, rfl, rfl, rfl, trivial⟩)) fun (b289 : ((Unit × (Unit × Unit)) × ((Int ⊕ (Str ⊕ (List Str))) × ((List (Int ⊕ (Str ⊕ (List Str)))) × (List (Int ⊕ (Str ⊕ (List Str)))))))) x288 => s_endB (x269, x288, b289.2.2) (by exact ⟨rfl, rfl, rfl, rfl, rfl, rfl, trivial⟩) (List.Sublist.refl _))) (fun a oe cls d pn hz hf e290 => s_T (T := if ((!(subC e290.cn "DeskError")) || (!(subC e290.cn "ValueError"))) = true then inB (some (false, a1, a2, a3)) else if ((["UnknownName", "RepeatedName", "UnknownValue", "RepeatedValue", "UnknownKey", "RepeatedKey", "EmptyRule"] : List Str).any (subC e290.cn)) = true then inB (some (false, a1, a2, a3)) else if ((["BadRow", "BadBounds", "BadNumber", "BadStep", "NoMark", "NotStruck", "BadOrder", "NotBare", "NoClash"] : List Str).any (subC e290.cn)) = true then inB (some (false, a1, a2, a3)) else if ((["HoldsAnswer", "BadLine", "UnknownLine", "BadText", "NothingToUndo", "NothingToRedo", "BadDeed"] : List Str).any (subC e290.cn)) = true then inB (some (false, a1, a2, a3)) else (erF e290 "number").bind fun y295 => (FV.int? y295).bind fun z296 => (M_l_is_integer z296).bind fun r297 => ((if (!r297) = true then some (true, ()) else (erF e290 "number").bind fun y301 => (FV.int? y301).bind fun z302 => some ((!decide (z302 = a4)), ()))).bind fun c303 => if c303.1 = true then inB (some (false, a1, a2, a3)) else (some (true : Bool)).bind fun x305 => some (Bo.nx (x305, x271, a1))) (s_ifB (ins_F _) (t_kd (c := fun (b_ : Unit) => ((!(subC e290.cn "DeskError")) || (!(subC e290.cn "ValueError")))) (PW.pt (w_or (t_totV (!(subC e290.cn "DeskError")) () (fun _ => rfl) (by exact (t_kd (c := fun (b_ : Unit) => (!(subC e290.cn "DeskError"))) (t_not (t_kd (c := fun (b_ : Unit) => (subC e290.cn "DeskError")) (t_val (x_kd (E := fun (b_ : Unit) => pBl (subC e290.cn "DeskError")) (x_isE1 (y := "DeskError") hz hf C.xs (by decide +kernel) m_isinstance (y_var (p := pExc (erX mg rsL) a cls d e290) 7))))))))) (w_or1 (t_totV (!(subC e290.cn "ValueError")) () (fun _ => rfl) (by exact (t_kd (c := fun (b_ : Unit) => (!(subC e290.cn "ValueError"))) (t_not (t_kd (c := fun (b_ : Unit) => (subC e290.cn "ValueError")) (t_val (x_kd (E := fun (b_ : Unit) => pBl (subC e290.cn "ValueError")) (x_isE1 (y := "ValueError") hz hf C.xs (by decide +kernel) m_isinstance (y_var (p := pExc (erX mg rsL) a cls d e290) 7))))))))))))) (fun (b291 : Unit) => s_T (T := some (false, a1, a2, a3)) (s_ret (P := (fun (r : Bool × ((List (Int ⊕ (Str ⊕ (List Str)))) × (List (Int ⊕ (Str ⊕ (List Str))))) × (List (Int ⊕ (Str ⊕ (List Str)))) × (List (Int ⊕ (Str ⊕ (List Str))))) => [⟨v1, (O_History mg) r.2.1, some 0⟩, ⟨v2, (oL (pSm pInt (pSm pStr (I_Unlike mg)))) r.2.2.1, some 1⟩, ⟨v3, (oL (pSm pInt (pSm pStr (I_Unlike mg)))) r.2.2.2, some 2⟩])) (Rp := (fun (r : Bool × ((List (Int ⊕ (Str ⊕ (List Str)))) × (List (Int ⊕ (Str ⊕ (List Str))))) × (List (Int ⊕ (Str ⊕ (List Str)))) × (List (Int ⊕ (Str ⊕ (List Str))))) => pBl r.1)) (ι := id) (rv := fun (b : Unit) => (false, a1, a2, a3)) (fun _ _ _ h => by exact h) x_bl (fun _ => List.Sublist.refl _))) fun (b291 : Unit) => s_T (T := if ((["UnknownName", "RepeatedName", "UnknownValue", "RepeatedValue", "UnknownKey", "RepeatedKey", "EmptyRule"] : List Str).any (subC e290.cn)) = true then inB (some (false, a1, a2, a3)) else if ((["BadRow", "BadBounds", "BadNumber", "BadStep", "NoMark", "NotStruck", "BadOrder", "NotBare", "NoClash"] : List Str).any (subC e290.cn)) = true then inB (some (false, a1, a2, a3)) else if ((["HoldsAnswer", "BadLine", "UnknownLine", "BadText", "NothingToUndo", "NothingToRedo", "BadDeed"] : List Str).any (subC e290.cn)) = true then inB (some (false, a1, a2, a3)) else (erF e290 "number").bind fun y295 => (FV.int? y295).bind fun z296 => (M_l_is_integer z296).bind fun r297 => ((if (!r297) = true then some (true, ()) else (erF e290 "number").bind fun y301 => (FV.int? y301).bind fun z302 => some ((!decide (z302 = a4)), ()))).bind fun c303 => if c303.1 = true then inB (some (false, a1, a2, a3)) else (some (true : Bool)).bind fun x305 => some (Bo.nx (x305, x271, a1))) (s_ifB (ins_F _) (t_kd (c := fun (b_ : Unit) => ((["UnknownName", "RepeatedName", "UnknownValue", "RepeatedValue", "UnknownKey", "RepeatedKey", "EmptyRule"] : List Str).any (subC e290.cn))) (t_val (x_kd (E := fun (b_ : Unit) => pBl ((["UnknownName", "RepeatedName", "UnknownValue", "RepeatedValue", "UnknownKey", "RepeatedKey", "EmptyRule"] : List Str).any (subC e290.cn))) (x_isEC ["UnknownName", "RepeatedName", "UnknownValue", "RepeatedValue", "UnknownKey", "RepeatedKey", "EmptyRule"] hz hf C.xs (by decide +kernel) (by decide) m_isinstance (x_var (p := pExc (erX mg rsL) a cls d e290) 7) (fun _ => (c_cons C.xs (by decide +kernel) (c_cons C.xs (by decide +kernel) (c_cons C.xs (by decide +kernel) (c_cons C.xs (by decide +kernel) (c_cons C.xs (by decide +kernel) (c_cons C.xs (by decide +kernel) (c_cons C.xs (by decide +kernel) c_nil)))))))))))) (fun (b292 : Unit) => s_T (T := some (false, a1, a2, a3)) (s_ret (P := (fun (r : Bool × ((List (Int ⊕ (Str ⊕ (List Str)))) × (List (Int ⊕ (Str ⊕ (List Str))))) × (List (Int ⊕ (Str ⊕ (List Str)))) × (List (Int ⊕ (Str ⊕ (List Str))))) => [⟨v1, (O_History mg) r.2.1, some 0⟩, ⟨v2, (oL (pSm pInt (pSm pStr (I_Unlike mg)))) r.2.2.1, some 1⟩, ⟨v3, (oL (pSm pInt (pSm pStr (I_Unlike mg)))) r.2.2.2, some 2⟩])) (Rp := (fun (r : Bool × ((List (Int ⊕ (Str ⊕ (List Str)))) × (List (Int ⊕ (Str ⊕ (List Str))))) × (List (Int ⊕ (Str ⊕ (List Str)))) × (List (Int ⊕ (Str ⊕ (List Str))))) => pBl r.1)) (ι := id) (rv := fun (b : Unit) => (false, a1, a2, a3)) (fun _ _ _ h => by exact h) x_bl (fun _ => List.Sublist.refl _))) fun (b292 : Unit) => s_T (T := if ((["BadRow", "BadBounds", "BadNumber", "BadStep", "NoMark", "NotStruck", "BadOrder", "NotBare", "NoClash"] : List Str).any (subC e290.cn)) = true then inB (some (false, a1, a2, a3)) else if ((["HoldsAnswer", "BadLine", "UnknownLine", "BadText", "NothingToUndo", "NothingToRedo", "BadDeed"] : List Str).any (subC e290.cn)) = true then inB (some (false, a1, a2, a3)) else (erF e290 "number").bind fun y295 => (FV.int? y295).bind fun z296 => (M_l_is_integer z296).bind fun r297 => ((if (!r297) = true then some (true, ()) else (erF e290 "number").bind fun y301 => (FV.int? y301).bind fun z302 => some ((!decide (z302 = a4)), ()))).bind fun c303 => if c303.1 = true then inB (some (false, a1, a2, a3)) else (some (true : Bool)).bind fun x305 => some (Bo.nx (x305, x271, a1))) (s_ifB (ins_F _) (t_kd (c := fun (b_ : Unit) => ((["BadRow", "BadBounds", "BadNumber", "BadStep", "NoMark", "NotStruck", "BadOrder", "NotBare", "NoClash"] : List Str).any (subC e290.cn))) (t_val (x_kd (E := fun (b_ : Unit) => pBl ((["BadRow", "BadBounds", "BadNumber", "BadStep", "NoMark", "NotStruck", "BadOrder", "NotBare", "NoClash"] : List Str).any (subC e290.cn))) (x_isEC ["BadRow", "BadBounds", "BadNumber", "BadStep", "NoMark", "NotStruck", "BadOrder", "NotBare", "NoClash"] hz hf C.xs (by decide +kernel) (by decide) m_isinstance (x_var (p := pExc (erX mg rsL) a cls d e290) 7) (fun _ => (c_cons C.xs (by decide +kernel) (c_cons C.xs (by decide +kernel) (c_cons C.xs (by decide +kernel) (c_cons C.xs (by decide +kernel) (c_cons C.xs (by decide +kernel) (c_cons C.xs (by decide +kernel) (c_cons C.xs (by decide +kernel) (c_cons C.xs (by decide +kernel) (c_cons C.xs (by decide +kernel) c_nil)))))))))))))) (fun (b293 : Unit) => s_T (T := some (false, a1, a2, a3)) (s_ret (P := (fun (r : Bool × ((List (Int ⊕ (Str ⊕ (List Str)))) × (List (Int ⊕ (Str ⊕ (List Str))))) × (List (Int ⊕ (Str ⊕ (List Str)))) × (List (Int ⊕ (Str ⊕ (List Str))))) => [⟨v1, (O_History mg) r.2.1, some 0⟩, ⟨v2, (oL (pSm pInt (pSm pStr (I_Unlike mg)))) r.2.2.1, some 1⟩, ⟨v3, (oL (pSm pInt (pSm pStr (I_Unlike mg)))) r.2.2.2, some 2⟩])) (Rp := (fun (r : Bool × ((List (Int ⊕ (Str ⊕ (List Str)))) × (List (Int ⊕ (Str ⊕ (List Str))))) × (List (Int ⊕ (Str ⊕ (List Str)))) × (List (Int ⊕ (Str ⊕ (List Str))))) => pBl r.1)) (ι := id) (rv := fun (b : Unit) => (false, a1, a2, a3)) (fun _ _ _ h => by exact h) x_bl (fun _ => List.Sublist.refl _))) fun (b293 : Unit) => s_T (T := if ((["HoldsAnswer", "BadLine", "UnknownLine", "BadText", "NothingToUndo", "NothingToRedo", "BadDeed"] : List Str).any (subC e290.cn)) = true then inB (some (false, a1, a2, a3)) else (erF e290 "number").bind fun y295 => (FV.int? y295).bind fun z296 => (M_l_is_integer z296).bind fun r297 => ((if (!r297) = true then some (true, ()) else (erF e290 "number").bind fun y301 => (FV.int? y301).bind fun z302 => some ((!decide (z302 = a4)), ()))).bind fun c303 => if c303.1 = true then inB (some (false, a1, a2, a3)) else (some (true : Bool)).bind fun x305 => some (Bo.nx (x305, x271, a1))) (s_ifB (ins_F _) (t_kd (c := fun (b_ : Unit) => ((["HoldsAnswer", "BadLine", "UnknownLine", "BadText", "NothingToUndo", "NothingToRedo", "BadDeed"] : List Str).any (subC e290.cn))) (t_val (x_kd (E := fun (b_ : Unit) => pBl ((["HoldsAnswer", "BadLine", "UnknownLine", "BadText", "NothingToUndo", "NothingToRedo", "BadDeed"] : List Str).any (subC e290.cn))) (x_isEC ["HoldsAnswer", "BadLine", "UnknownLine", "BadText", "NothingToUndo", "NothingToRedo", "BadDeed"] hz hf C.xs (by decide +kernel) (by decide) m_isinstance (x_var (p := pExc (erX mg rsL) a cls d e290) 7) (fun _ => (c_cons C.xs (by decide +kernel) (c_cons C.xs (by decide +kernel) (c_cons C.xs (by decide +kernel) (c_cons C.xs (by decide +kernel) (c_cons C.xs (by decide +kernel) (c_cons C.xs (by decide +kernel) (c_cons C.xs (by decide +kernel) c_nil)))))))))))) (fun (b294 : Unit) => s_T (T := some (false, a1, a2, a3)) (s_ret (P := (fun (r : Bool × ((List (Int ⊕ (Str ⊕ (List Str)))) × (List (Int ⊕ (Str ⊕ (List Str))))) × (List (Int ⊕ (Str ⊕ (List Str)))) × (List (Int ⊕ (Str ⊕ (List Str))))) => [⟨v1, (O_History mg) r.2.1, some 0⟩, ⟨v2, (oL (pSm pInt (pSm pStr (I_Unlike mg)))) r.2.2.1, some 1⟩, ⟨v3, (oL (pSm pInt (pSm pStr (I_Unlike mg)))) r.2.2.2, some 2⟩])) (Rp := (fun (r : Bool × ((List (Int ⊕ (Str ⊕ (List Str)))) × (List (Int ⊕ (Str ⊕ (List Str))))) × (List (Int ⊕ (Str ⊕ (List Str)))) × (List (Int ⊕ (Str ⊕ (List Str))))) => pBl r.1)) (ι := id) (rv := fun (b : Unit) => (false, a1, a2, a3)) (fun _ _ _ h => by exact h) x_bl (fun _ => List.Sublist.refl _))) fun (b294 : Unit) => s_T (T := (erF e290 "number").bind fun y295 => (FV.int? y295).bind fun z296 => (M_l_is_integer z296).bind fun r297 => ((if (!r297) = true then some (true, ()) else (erF e290 "number").bind fun y301 => (FV.int? y301).bind fun z302 => some ((!decide (z302 = a4)), ()))).bind fun c303 => if c303.1 = true then inB (some (false, a1, a2, a3)) else (some (true : Bool)).bind fun x305 => some (Bo.nx (x305, x271, a1))) (s_ifB (ins_F _) (t_kd (c := fun (b_ : ((((Unit × FV) × Int) × Bool) × (Bool × Unit))) => b_.2.1) (PW.pt (w_orM (ΔS := fun (b_ : (((Unit × FV) × Int) × Bool)) (s_ : Unit) => [⟨v1, (O_History mg) a1, some 0⟩, ⟨v2, (oL (pSm pInt (pSm pStr (I_Unlike mg)))) a2, some 1⟩, ⟨v3, (oL (pSm pInt (pSm pStr (I_Unlike mg)))) a3, some 2⟩]) (s1 := fun (b_ : (((Unit × FV) × Int) × Bool)) => ()) (s2 := fun (b_ : (((Unit × FV) × Int) × Bool)) (c_ : (((Unit × FV) × Int) × Unit)) => ()) (t_kd (c := fun (b_ : (((Unit × FV) × Int) × Bool)) => (!b_.2)) (t_not (t_kd (c := fun (b_ : (((Unit × FV) × Int) × Bool)) => b_.2) (t_val (x_kd (E := fun (b_ : (((Unit × FV) × Int) × Bool)) => pBl b_.2) (x_Q1 (kk := 1) (E1 := pInt) (show (a, oe) ∈ (a, oe) :: pn from List.mem_cons_self) kq_l_is_integer (roomS hr (by decide : 1 ≤ _)) g_l_is_integer F_l_is_integer.kp b_l_is_integer (x_kd (E := fun (b_ : ((Unit × FV) × Int)) => pInt b_.2) (x_fv (Ee := pInt) FV.int? fv_int (x_erF (f := "number") hz hf C.xs (x_var (p := pExc (erX mg rsL) a cls d e290) 7)))))))))) (fun (b300 : (((Unit × FV) × Int) × Bool)) => w_or1 (t_kd (c := fun (b_ : (((Unit × FV) × Int) × Unit)) => (!decide (b_.1.2 = a4))) (t_neI (x_kd (E := fun (b_ : ((Unit × FV) × Int)) => pInt b_.2) (x_fv (Ee := pInt) FV.int? fv_int (x_erF (f := "number") hz hf C.xs (x_var (p := pExc (erX mg rsL) a cls d e290) 7)))) (fun _ => x_var (p := pInt a4) 3)))) (fun _ => rfl) (fun _ _ => rfl)))) (fun (b304 : ((((Unit × FV) × Int) × Bool) × (Bool × Unit))) => s_T (T := some (false, a1, a2, a3)) (s_ret (P := (fun (r : Bool × ((List (Int ⊕ (Str ⊕ (List Str)))) × (List (Int ⊕ (Str ⊕ (List Str))))) × (List (Int ⊕ (Str ⊕ (List Str)))) × (List (Int ⊕ (Str ⊕ (List Str))))) => [⟨v1, (O_History mg) r.2.1, some 0⟩, ⟨v2, (oL (pSm pInt (pSm pStr (I_Unlike mg)))) r.2.2.1, some 1⟩, ⟨v3, (oL (pSm pInt (pSm pStr (I_Unlike mg)))) r.2.2.2, some 2⟩])) (Rp := (fun (r : Bool × ((List (Int ⊕ (Str ⊕ (List Str)))) × (List (Int ⊕ (Str ⊕ (List Str))))) × (List (Int ⊕ (Str ⊕ (List Str)))) × (List (Int ⊕ (Str ⊕ (List Str))))) => pBl r.1)) (ι := id) (rv := fun (b : Unit) => (false, a1, a2, a3)) (fun _ _ _ h => by exact h) x_bl (fun _ => List.Sublist.refl _))) fun (b304 : ((((Unit × FV) × Int) × Bool) × (Bool × Unit))) => s_T (T := (some (true : Bool)).bind fun x305 => some (Bo.nx (x305, x271, a1))) (s_let (i := 4) pBl sc_l_back.nd x_bl fun (b306 : Unit) x305 => s_endB (x305, x271, a1) (by exact ⟨rfl, rfl, rfl, rfl, rfl, rfl, trivial⟩) (List.Sublist.refl _)))))))) (fun s273 => s_T (T := if ((decide (a4 < (0 : Int))) || (decide ((a2.length : Int) ≤ a4))) = true then some (s273.1, s273.2.2, a2, a3) else grd (rg (((a2.length : Int) - (1 : Int)) - a4) = true) ((forS (rngL 0 (((a2.length : Int) - (1 : Int)) - a4).toNat) ((a2, a3) : (List (Int ⊕ (Str ⊕ (List Str)))) × (List (Int ⊕ (Str ⊕ (List Str))))) fun x277 s276 => (popL (s276.1)).bind fun q285 => grd ((s276.2).length < sizeLine) (some (q285.2, ((s276.2) ++ [q285.1])))).bind fun s278 => ((if (!(s273.1)) = true then (atI (s278.1) (-(1 : Int))).bind fun x282 => (M_l_same_state (s273.2.1) x282).bind fun r283 => some (r283, ()) else some (false, ()))).bind fun c284 => some (c284.1, s273.2.2, s278.1, s278.2))) (s_ifT (ins_F _) (t_kd (c := fun (b_ : Unit) => ((decide (a4 < (0 : Int))) || (decide ((a2.length : Int) ≤ a4)))) (PW.pt (w_or (t_totV (decide (a4 < (0 : Int))) ((), ()) (fun _ => rfl) (by exact (t_kd (c := fun (b_ : (Unit × Unit)) => (decide (a4 < (0 : Int)))) (t_lt (y_var (p := pInt a4) 3) (fun _ => y_int (i := 0)))))) (w_or1 (t_totV (decide ((a2.length : Int) ≤ a4)) ((), ()) (fun _ => rfl) (by exact (t_kd (c := fun (b_ : (Unit × Unit)) => (decide ((a2.length : Int) ≤ a4))) (t_ge (y_var (p := pInt a4) 3) (fun _ => x_kd (E := fun (b_ : Unit) => pInt (a2.length : Int)) (x_lenL (Ee := (pSm pInt (pSm pStr (I_Unlike mg)))) m_len (y_var (p := pV v2) 1) (fun _ => rdO 1))))))))))) (fun (b274 : Unit) => s_T (T := some (s273.1, s273.2.2, a2, a3)) (s_ret (P := (fun (r : Bool × ((List (Int ⊕ (Str ⊕ (List Str)))) × (List (Int ⊕ (Str ⊕ (List Str))))) × (List (Int ⊕ (Str ⊕ (List Str)))) × (List (Int ⊕ (Str ⊕ (List Str))))) => [⟨v1, (O_History mg) r.2.1, some 0⟩, ⟨v2, (oL (pSm pInt (pSm pStr (I_Unlike mg)))) r.2.2.1, some 1⟩, ⟨v3, (oL (pSm pInt (pSm pStr (I_Unlike mg)))) r.2.2.2, some 2⟩])) (Rp := (fun (r : Bool × ((List (Int ⊕ (Str ⊕ (List Str)))) × (List (Int ⊕ (Str ⊕ (List Str))))) × (List (Int ⊕ (Str ⊕ (List Str)))) × (List (Int ⊕ (Str ⊕ (List Str))))) => pBl r.1)) (ι := id) (rv := fun (b : Unit) => (s273.1, s273.2.2, a2, a3)) (fun _ _ _ h => by exact h) (x_var (p := pBl s273.1) 4) (fun _ => List.Sublist.refl _))) fun (b274 : Unit) => s_T (T := grd (rg (((a2.length : Int) - (1 : Int)) - a4) = true) ((forS (rngL 0 (((a2.length : Int) - (1 : Int)) - a4).toNat) ((a2, a3) : (List (Int ⊕ (Str ⊕ (List Str)))) × (List (Int ⊕ (Str ⊕ (List Str))))) fun x277 s276 => (popL (s276.1)).bind fun q285 => grd ((s276.2).length < sizeLine) (some (q285.2, ((s276.2) ++ [q285.1])))).bind fun s278 => ((if (!(s273.1)) = true then (atI (s278.1) (-(1 : Int))).bind fun x282 => (M_l_same_state (s273.2.1) x282).bind fun r283 => some (r283, ()) else some (false, ()))).bind fun c284 => some (c284.1, s273.2.2, s278.1, s278.2))) (s_forS PassesOwn.never (fun (b_ : ((Unit × Unit) × Unit)) (s_ : (List (Int ⊕ (Str ⊕ (List Str)))) × (List (Int ⊕ (Str ⊕ (List Str))))) => ([some (pV v1), some (pV v2), some (pV v3), some (pInt a4), some (pBl s273.1), some ((pOp (pSm pInt (pSm pStr (I_Unlike mg)))) s273.2.1), none, none], [⟨v1, (O_History mg) s273.2.2, some 0⟩, ⟨v2, (oL (pSm pInt (pSm pStr (I_Unlike mg)))) s_.1, some 1⟩, ⟨v3, (oL (pSm pInt (pSm pStr (I_Unlike mg)))) s_.2, some 2⟩])) (fun (b_ : ((Unit × Unit) × Unit)) => (a2, a3)) (i_rng1 m_range (x_kd (E := fun (b_ : ((Unit × Unit) × Unit)) => pInt (((a2.length : Int) - (1 : Int)) - a4)) (x_sub (x_kd (E := fun (b_ : (Unit × Unit)) => pInt ((a2.length : Int) - (1 : Int))) (x_sub (x_kd (E := fun (b_ : Unit) => pInt (a2.length : Int)) (x_lenL (Ee := (pSm pInt (pSm pStr (I_Unlike mg)))) m_len (x_var (p := pV v2) 1) (fun _ => rdO 1))) (fun _ => x_int (i := 1)))) (fun _ => x_var (p := pInt a4) 3)))) (pg_name (i := 6) sc_l_back.nd rfl (by first | exact .inl rfl | exact .inr rfl)) (tg_name 6) (fun _ => (by exact ⟨rfl, rfl, rfl, rfl, rfl, rfl, trivial⟩)) (fun _ => List.Sublist.refl _) (fun b275 x277 s276 => s_T (T := (popL (s276.1)).bind fun q285 => grd ((s276.2).length < sizeLine) (some (q285.2, ((s276.2) ++ [q285.1])))) (s_expr (x_app 2 (x_var (p := pV v3) 2) (fun _ => x_kd (E := fun (b_ : (Unit × ((Int ⊕ (Str ⊕ (List Str))) × List (Int ⊕ (Str ⊕ (List Str)))))) => (pSm pInt (pSm pStr (I_Unlike mg))) b_.2.1) (x_popF (Ee := (pSm pInt (pSm pStr (I_Unlike mg)))) 1 (f_var (D := (oL (pSm pInt (pSm pStr (I_Unlike mg))))) (x_var (p := pV v2) 1)))) (fun _ => rfl) (fun _ _ => rfl)) fun (b286 : (Unit × (Unit × ((Int ⊕ (Str ⊕ (List Str))) × List (Int ⊕ (Str ⊕ (List Str))))))) => s_end (b286.2.2.2, ((s276.2) ++ [b286.2.2.1])) rfl (by exact ⟨rfl, rfl, rfl, rfl, rfl, rfl, trivial⟩) (List.Sublist.refl _))) fun b275 s278 => s_T (T := ((if (!(s273.1)) = true then (atI (s278.1) (-(1 : Int))).bind fun x282 => (M_l_same_state (s273.2.1) x282).bind fun r283 => some (r283, ()) else some (false, ()))).bind fun c284 => some (c284.1, s273.2.2, s278.1, s278.2)) (s_ret (P := (fun (r : Bool × ((List (Int ⊕ (Str ⊕ (List Str)))) × (List (Int ⊕ (Str ⊕ (List Str))))) × (List (Int ⊕ (Str ⊕ (List Str)))) × (List (Int ⊕ (Str ⊕ (List Str))))) => [⟨v1, (O_History mg) r.2.1, some 0⟩, ⟨v2, (oL (pSm pInt (pSm pStr (I_Unlike mg)))) r.2.2.1, some 1⟩, ⟨v3, (oL (pSm pInt (pSm pStr (I_Unlike mg)))) r.2.2.2, some 2⟩])) (Rp := (fun (r : Bool × ((List (Int ⊕ (Str ⊕ (List Str)))) × (List (Int ⊕ (Str ⊕ (List Str))))) × (List (Int ⊕ (Str ⊕ (List Str)))) × (List (Int ⊕ (Str ⊕ (List Str))))) => pBl r.1)) (ι := id) (rv := fun (b : (Unit × (Bool × Unit))) => (b.2.1, s273.2.2, s278.1, s278.2)) (fun _ _ _ h => by exact h) (x_kd (x_kd (E := fun (b_ : (Unit × (Bool × Unit))) => pBl b_.2.1) (v_andM (ΔS := fun (b_ : Unit) (s_ : Unit) => [⟨v1, (O_History mg) s273.2.2, some 0⟩, ⟨v2, (oL (pSm pInt (pSm pStr (I_Unlike mg)))) s278.1, some 1⟩, ⟨v3, (oL (pSm pInt (pSm pStr (I_Unlike mg)))) s278.2, some 2⟩]) (s1 := fun (b_ : Unit) => ()) (s2 := fun (b_ : Unit) (c_ : ((Unit × ((Unit × Unit) × (Int ⊕ (Str ⊕ (List Str))))) × Bool)) => ()) (x_kd (E := fun (b_ : Unit) => pBl (!(s273.1))) (x_not (x_var (p := pBl s273.1) 4))) (fun (b281 : Unit) => v_one (x_kd (E := fun (b_ : ((Unit × ((Unit × Unit) × (Int ⊕ (Str ⊕ (List Str))))) × Bool)) => pBl b_.2) (x_FF_f (kk := 2) (E1 := (pOp (pSm pInt (pSm pStr (I_Unlike mg))))) (E2 := (pSm pInt (pSm pStr (I_Unlike mg)))) k_l_same_state (hr.mono (by decide)) g_l_same_state F_l_same_state.kp b_l_same_state (x_var (p := (pOp (pSm pInt (pSm pStr (I_Unlike mg)))) s273.2.1) 5) (fun _ => x_kd (E := fun (b_ : ((Unit × Unit) × (Int ⊕ (Str ⊕ (List Str))))) => (pSm pInt (pSm pStr (I_Unlike mg))) b_.2) (x_ixL (Ee := (pSm pInt (pSm pStr (I_Unlike mg)))) (x_var (p := pV v2) 1) (fun _ => x_kd (E := fun (b_ : Unit) => pInt (-(1 : Int))) (x_neg (x_int (i := 1)))) (fun _ _ => rdO 1)))))) (fun _ => rfl) (fun _ _ => rfl)))) (fun _ => List.Sublist.refl _))))) (fun _ _ _ h => by exact h) (ins_F _) (uns_F _) (fun _ => rfl) (fun _ _ _ _ _ h => nomatch h))))) (by unfold M_l_back; rfl)
end
end My
end
section
set_option maxHeartbeats 4000000
set_option synthInstance.maxSize 2000
namespace My
open PySem PySem.Spec PyProof.Rows L2 L3
section
variable {P : Program} {w : World} {K : PySem.W.Frag} {mg : Str → Option Value} {base : Heap}
theorem sc_l_push : FnScope ["_law_history", "_law_before", "_law_after", "_law_pushed", "_law_actual"] ["_law_history", "_law_before", "_law_after", "_law_pushed"] (defScope (top 43)) := ⟨rfl, rfl, rfl, by decide +kernel, rfl, by decide +kernel, by decide +kernel⟩
theorem ok_l_push {f : Addr} {fd : FuncData} (C : Ev P K mg) (FD : FnP K "_law_push" (top 43) f fd) : FnOk P w K mg base CX0 2 f fd ["_law_history", "_law_before", "_law_after", "_law_pushed"] (SpN (fun (a : (V × ((List (Int ⊕ (Str ⊕ (List Str)))) × (List (Int ⊕ (Str ⊕ (List Str)))))) × (V × (List (Int ⊕ (Str ⊕ (List Str))))) × (V × (List (Int ⊕ (Str ⊕ (List Str))))) × (Int ⊕ (Str ⊕ (List Str)))) => ([pV a.1.1, pV a.2.1.1, pV a.2.2.1.1, (pSm pInt (pSm pStr (I_Unlike mg))) a.2.2.2] : List Pd)) (fun (a : (V × ((List (Int ⊕ (Str ⊕ (List Str)))) × (List (Int ⊕ (Str ⊕ (List Str)))))) × (V × (List (Int ⊕ (Str ⊕ (List Str))))) × (V × (List (Int ⊕ (Str ⊕ (List Str))))) × (Int ⊕ (Str ⊕ (List Str)))) => ([⟨a.1.1, (O_History mg) a.1.2, some 0⟩, ⟨a.2.1.1, (oL (pSm pInt (pSm pStr (I_Unlike mg)))) a.2.1.2, some 1⟩, ⟨a.2.2.1.1, (oL (pSm pInt (pSm pStr (I_Unlike mg)))) a.2.2.1.2, some 2⟩] : List Cell)) (fun (a : (V × ((List (Int ⊕ (Str ⊕ (List Str)))) × (List (Int ⊕ (Str ⊕ (List Str)))))) × (V × (List (Int ⊕ (Str ⊕ (List Str))))) × (V × (List (Int ⊕ (Str ⊕ (List Str))))) × (Int ⊕ (Str ⊕ (List Str)))) => M_l_push a.1.2 a.2.1.2 a.2.2.1.2 a.2.2.2) (fun (a : (V × ((List (Int ⊕ (Str ⊕ (List Str)))) × (List (Int ⊕ (Str ⊕ (List Str)))))) × (V × (List (Int ⊕ (Str ⊕ (List Str))))) × (V × (List (Int ⊕ (Str ⊕ (List Str))))) × (Int ⊕ (Str ⊕ (List Str)))) (r : Bool × ((List (Int ⊕ (Str ⊕ (List Str)))) × (List (Int ⊕ (Str ⊕ (List Str))))) × (List (Int ⊕ (Str ⊕ (List Str)))) × (List (Int ⊕ (Str ⊕ (List Str))))) => ([⟨a.1.1, (O_History mg) r.2.1, some 0⟩, ⟨a.2.1.1, (oL (pSm pInt (pSm pStr (I_Unlike mg)))) r.2.2.1, some 1⟩, ⟨a.2.2.1.1, (oL (pSm pInt (pSm pStr (I_Unlike mg)))) r.2.2.2, some 2⟩] : List Cell)) (fun (r : Bool × ((List (Int ⊕ (Str ⊕ (List Str)))) × (List (Int ⊕ (Str ⊕ (List Str))))) × (List (Int ⊕ (Str ⊕ (List Str)))) × (List (Int ⊕ (Str ⊕ (List Str))))) => pBl r.1)) := by
  obtain ⟨C_History, fI_History, fdI_History, gC_History, hC_History, hK_History, FI_History, n_History__done, n_History__undone⟩ := C.c_History
  obtain ⟨c_History_push, f_History_push, fd_History_push, gc_History_push, hc_History_push, hm_History_push, F_History_push⟩ := C.f_History_push
  have k_History_push := ok_History_push (P := P) (w := w) (base := base) C F_History_push
  have b_History_push : Binds K fd_History_push ["self", "state"] [] := F_History_push.bindsN fun _ _ _ _ _ _ us hl => match us, hl with | [_, _], _ => rfl
  refine fn_N (A := (fun (a : (V × ((List (Int ⊕ (Str ⊕ (List Str)))) × (List (Int ⊕ (Str ⊕ (List Str)))))) × (V × (List (Int ⊕ (Str ⊕ (List Str))))) × (V × (List (Int ⊕ (Str ⊕ (List Str))))) × (Int ⊕ (Str ⊕ (List Str)))) => ([pV a.1.1, pV a.2.1.1, pV a.2.2.1.1, (pSm pInt (pSm pStr (I_Unlike mg))) a.2.2.2] : List Pd))) (C := (fun (a : (V × ((List (Int ⊕ (Str ⊕ (List Str)))) × (List (Int ⊕ (Str ⊕ (List Str)))))) × (V × (List (Int ⊕ (Str ⊕ (List Str))))) × (V × (List (Int ⊕ (Str ⊕ (List Str))))) × (Int ⊕ (Str ⊕ (List Str)))) => ([⟨a.1.1, (O_History mg) a.1.2, some 0⟩, ⟨a.2.1.1, (oL (pSm pInt (pSm pStr (I_Unlike mg)))) a.2.1.2, some 1⟩, ⟨a.2.2.1.1, (oL (pSm pInt (pSm pStr (I_Unlike mg)))) a.2.2.1.2, some 2⟩] : List Cell))) (Mf := (fun (a : (V × ((List (Int ⊕ (Str ⊕ (List Str)))) × (List (Int ⊕ (Str ⊕ (List Str)))))) × (V × (List (Int ⊕ (Str ⊕ (List Str))))) × (V × (List (Int ⊕ (Str ⊕ (List Str))))) × (Int ⊕ (Str ⊕ (List Str)))) => M_l_push a.1.2 a.2.1.2 a.2.2.1.2 a.2.2.2)) (Cr := (fun (a : (V × ((List (Int ⊕ (Str ⊕ (List Str)))) × (List (Int ⊕ (Str ⊕ (List Str)))))) × (V × (List (Int ⊕ (Str ⊕ (List Str))))) × (V × (List (Int ⊕ (Str ⊕ (List Str))))) × (Int ⊕ (Str ⊕ (List Str)))) (r : Bool × ((List (Int ⊕ (Str ⊕ (List Str)))) × (List (Int ⊕ (Str ⊕ (List Str))))) × (List (Int ⊕ (Str ⊕ (List Str)))) × (List (Int ⊕ (Str ⊕ (List Str))))) => ([⟨a.1.1, (O_History mg) r.2.1, some 0⟩, ⟨a.2.1.1, (oL (pSm pInt (pSm pStr (I_Unlike mg)))) r.2.2.1, some 1⟩, ⟨a.2.2.1.1, (oL (pSm pInt (pSm pStr (I_Unlike mg)))) r.2.2.2, some 2⟩] : List Cell))) FD sc_l_push (fun _ => rfl) rfl (fun _ => ⟨rfl, rfl, rfl, trivial⟩) fun cdv A outer s H E hr Gs ⟨⟨v1, a1⟩, ⟨v2, a2⟩, ⟨v3, a3⟩, a4⟩ => ?_
  exact s_is (s_T (T := (M_History_push a1 a4).bind fun r307 => (some (() : Unit)).bind fun x308 => grd (a2.length < sizeLine) (some (((none : Option Int).isNone), r307.2, (a2 ++ [a4]), ([] : List (Int ⊕ (Str ⊕ (List Str))))))) (s_let (i := 4) pUnit sc_l_push.nd (x_kd (E := fun (b_ : ((Unit × (Unit × Unit)) × (Unit × ((List (Int ⊕ (Str ⊕ (List Str)))) × (List (Int ⊕ (Str ⊕ (List Str)))))))) => pUnit ()) (x_NM (kk := 1) (cn := "History") (xs := fun (_ : Unit) (b : (Unit × Unit)) => ((v1, a1), a4)) [some 0] _ 0 gc_History_push hc_History_push hm_History_push k_History_push (hr.mono (by decide)) b_History_push (x_var (p := pV v1) 0) (fun _ => rfl) (by decide +kernel) (fun _ => a_cons (x_var (p := (pSm pInt (pSm pStr (I_Unlike mg))) a4) 3) (fun _ => a_nil)) (fun _ _ => rfl) (fun _ _ _ _ ok => (ok.out (j := 0) rfl)) (fun _ _ _ _ _ ok => (ok.back (j := 0) rfl)) (hn := fun _ _ => ⟨rfl, trivial⟩))) fun (b309 : ((Unit × (Unit × Unit)) × (Unit × ((List (Int ⊕ (Str ⊕ (List Str)))) × (List (Int ⊕ (Str ⊕ (List Str)))))))) x308 => s_T (T := grd (a2.length < sizeLine) (some (((none : Option Int).isNone), b309.2.2, (a2 ++ [a4]), ([] : List (Int ⊕ (Str ⊕ (List Str))))))) (s_expr (x_app 1 (x_var (p := pV v2) 1) (fun _ => x_var (p := (pSm pInt (pSm pStr (I_Unlike mg))) a4) 3) (fun _ => rfl) (fun _ _ => rfl)) fun (b310 : (Unit × Unit)) => s_T (T := some (((none : Option Int).isNone), b309.2.2, (a2 ++ [a4]), ([] : List (Int ⊕ (Str ⊕ (List Str)))))) (s_expr (x_lclear (E := (pSm pInt (pSm pStr (I_Unlike mg)))) 2 (x_var (p := pV v3) 2) (fun _ => rfl)) fun (b311 : Unit) => s_T (T := some (((none : Option Int).isNone), b309.2.2, (a2 ++ [a4]), ([] : List (Int ⊕ (Str ⊕ (List Str)))))) (s_ret (P := (fun (r : Bool × ((List (Int ⊕ (Str ⊕ (List Str)))) × (List (Int ⊕ (Str ⊕ (List Str))))) × (List (Int ⊕ (Str ⊕ (List Str)))) × (List (Int ⊕ (Str ⊕ (List Str))))) => [⟨v1, (O_History mg) r.2.1, some 0⟩, ⟨v2, (oL (pSm pInt (pSm pStr (I_Unlike mg)))) r.2.2.1, some 1⟩, ⟨v3, (oL (pSm pInt (pSm pStr (I_Unlike mg)))) r.2.2.2, some 2⟩])) (Rp := (fun (r : Bool × ((List (Int ⊕ (Str ⊕ (List Str)))) × (List (Int ⊕ (Str ⊕ (List Str))))) × (List (Int ⊕ (Str ⊕ (List Str)))) × (List (Int ⊕ (Str ⊕ (List Str))))) => pBl r.1)) (ι := id) (rv := fun (b : Unit) => (((none : Option Int).isNone), b309.2.2, (a2 ++ [a4]), ([] : List (Int ⊕ (Str ⊕ (List Str)))))) (fun _ _ _ h => by exact h) (x_kd (E := fun (b_ : Unit) => pBl ((none : Option Int).isNone)) (x_isN nnInt (co_none (E := pInt) (x_var (p := pUnit x308) 4)))) (fun _ => List.Sublist.refl _)))))) (by unfold M_l_push; rfl)
end
end My
end
section
set_option maxHeartbeats 4000000
set_option synthInstance.maxSize 2000
namespace My
open PySem PySem.Spec PyProof.Rows L2 L3
section
variable {P : Program} {w : World} {K : PySem.W.Frag} {mg : Str → Option Value} {base : Heap}
theorem sc_l_deed : FnScope ["_law_history", "_law_before", "_law_after", "_law_stream_here", "_law_way"] ["_law_history", "_law_before", "_law_after", "_law_stream_here"] (defScope (top 44)) := ⟨rfl, rfl, rfl, by decide +kernel, rfl, by decide +kernel, by decide +kernel⟩
theorem ok_l_deed {f : Addr} {fd : FuncData} (C : Ev P K mg) (FD : FnP K "_law_deed" (top 44) f fd) : FnOk P w K mg base CX0 5 f fd ["_law_history", "_law_before", "_law_after", "_law_stream_here"] (SpN (fun (a : (V × ((List (Int ⊕ (Str ⊕ (List Str)))) × (List (Int ⊕ (Str ⊕ (List Str)))))) × (V × (List (Int ⊕ (Str ⊕ (List Str))))) × (V × (List (Int ⊕ (Str ⊕ (List Str))))) × (V × (List Int))) => ([pV a.1.1, pV a.2.1.1, pV a.2.2.1.1, pV a.2.2.2.1] : List Pd)) (fun (a : (V × ((List (Int ⊕ (Str ⊕ (List Str)))) × (List (Int ⊕ (Str ⊕ (List Str)))))) × (V × (List (Int ⊕ (Str ⊕ (List Str))))) × (V × (List (Int ⊕ (Str ⊕ (List Str))))) × (V × (List Int))) => ([⟨a.1.1, (O_History mg) a.1.2, some 0⟩, ⟨a.2.1.1, (oL (pSm pInt (pSm pStr (I_Unlike mg)))) a.2.1.2, some 1⟩, ⟨a.2.2.1.1, (oL (pSm pInt (pSm pStr (I_Unlike mg)))) a.2.2.1.2, some 2⟩, ⟨a.2.2.2.1, (oL pInt) a.2.2.2.2, some 3⟩] : List Cell)) (fun (a : (V × ((List (Int ⊕ (Str ⊕ (List Str)))) × (List (Int ⊕ (Str ⊕ (List Str)))))) × (V × (List (Int ⊕ (Str ⊕ (List Str))))) × (V × (List (Int ⊕ (Str ⊕ (List Str))))) × (V × (List Int))) => M_l_deed a.1.2 a.2.1.2 a.2.2.1.2 a.2.2.2.2) (fun (a : (V × ((List (Int ⊕ (Str ⊕ (List Str)))) × (List (Int ⊕ (Str ⊕ (List Str)))))) × (V × (List (Int ⊕ (Str ⊕ (List Str))))) × (V × (List (Int ⊕ (Str ⊕ (List Str))))) × (V × (List Int))) (r : Bool × ((List (Int ⊕ (Str ⊕ (List Str)))) × (List (Int ⊕ (Str ⊕ (List Str))))) × (List (Int ⊕ (Str ⊕ (List Str)))) × (List (Int ⊕ (Str ⊕ (List Str)))) × (List Int)) => ([⟨a.1.1, (O_History mg) r.2.1, some 0⟩, ⟨a.2.1.1, (oL (pSm pInt (pSm pStr (I_Unlike mg)))) r.2.2.1, some 1⟩, ⟨a.2.2.1.1, (oL (pSm pInt (pSm pStr (I_Unlike mg)))) r.2.2.2.1, some 2⟩, ⟨a.2.2.2.1, (oL pInt) r.2.2.2.2, some 3⟩] : List Cell)) (fun (r : Bool × ((List (Int ⊕ (Str ⊕ (List Str)))) × (List (Int ⊕ (Str ⊕ (List Str))))) × (List (Int ⊕ (Str ⊕ (List Str)))) × (List (Int ⊕ (Str ⊕ (List Str)))) × (List Int)) => pBl r.1)) := by
  have m_len := C.m_len
  obtain ⟨f_l_next, fd_l_next, F_l_next, g_l_next⟩ := C.f_l_next
  have k_l_next := ok_l_next (P := P) (w := w) (base := base) C F_l_next
  have b_l_next : Binds K fd_l_next ["_law_stream_here", "_law_size"] [] := F_l_next.bindsN fun _ _ _ _ _ _ us hl => match us, hl with | [_, _], _ => rfl
  obtain ⟨f_l_push, fd_l_push, F_l_push, g_l_push⟩ := C.f_l_push
  have k_l_push := ok_l_push (P := P) (w := w) (base := base) C F_l_push
  have b_l_push : Binds K fd_l_push ["_law_history", "_law_before", "_law_after", "_law_pushed"] [] := F_l_push.bindsN fun _ _ _ _ _ _ us hl => match us, hl with | [_, _, _, _], _ => rfl
  obtain ⟨f_l_state, fd_l_state, F_l_state, g_l_state⟩ := C.f_l_state
  have k_l_state := ok_l_state (P := P) (w := w) (base := base) C F_l_state
  have b_l_state : Binds K fd_l_state ["_law_stream_here"] [] := F_l_state.bindsN fun _ _ _ _ _ _ us hl => match us, hl with | [_], _ => rfl
  obtain ⟨f_l_undo, fd_l_undo, F_l_undo, g_l_undo⟩ := C.f_l_undo
  have k_l_undo := ok_l_undo (P := P) (w := w) (base := base) C F_l_undo
  have b_l_undo : Binds K fd_l_undo ["_law_history", "_law_before", "_law_after"] [] := F_l_undo.bindsN fun _ _ _ _ _ _ us hl => match us, hl with | [_, _, _], _ => rfl
  obtain ⟨f_l_redo, fd_l_redo, F_l_redo, g_l_redo⟩ := C.f_l_redo
  have k_l_redo := ok_l_redo (P := P) (w := w) (base := base) C F_l_redo
  have b_l_redo : Binds K fd_l_redo ["_law_history", "_law_before", "_law_after"] [] := F_l_redo.bindsN fun _ _ _ _ _ _ us hl => match us, hl with | [_, _, _], _ => rfl
  obtain ⟨f_l_back, fd_l_back, F_l_back, g_l_back⟩ := C.f_l_back
  have k_l_back := ok_l_back (P := P) (w := w) (base := base) C F_l_back
  have b_l_back : Binds K fd_l_back ["_law_history", "_law_before", "_law_after", "_law_target"] [] := F_l_back.bindsN fun _ _ _ _ _ _ us hl => match us, hl with | [_, _, _, _], _ => rfl
  refine fn_N (A := (fun (a : (V × ((List (Int ⊕ (Str ⊕ (List Str)))) × (List (Int ⊕ (Str ⊕ (List Str)))))) × (V × (List (Int ⊕ (Str ⊕ (List Str))))) × (V × (List (Int ⊕ (Str ⊕ (List Str))))) × (V × (List Int))) => ([pV a.1.1, pV a.2.1.1, pV a.2.2.1.1, pV a.2.2.2.1] : List Pd))) (C := (fun (a : (V × ((List (Int ⊕ (Str ⊕ (List Str)))) × (List (Int ⊕ (Str ⊕ (List Str)))))) × (V × (List (Int ⊕ (Str ⊕ (List Str))))) × (V × (List (Int ⊕ (Str ⊕ (List Str))))) × (V × (List Int))) => ([⟨a.1.1, (O_History mg) a.1.2, some 0⟩, ⟨a.2.1.1, (oL (pSm pInt (pSm pStr (I_Unlike mg)))) a.2.1.2, some 1⟩, ⟨a.2.2.1.1, (oL (pSm pInt (pSm pStr (I_Unlike mg)))) a.2.2.1.2, some 2⟩, ⟨a.2.2.2.1, (oL pInt) a.2.2.2.2, some 3⟩] : List Cell))) (Mf := (fun (a : (V × ((List (Int ⊕ (Str ⊕ (List Str)))) × (List (Int ⊕ (Str ⊕ (List Str)))))) × (V × (List (Int ⊕ (Str ⊕ (List Str))))) × (V × (List (Int ⊕ (Str ⊕ (List Str))))) × (V × (List Int))) => M_l_deed a.1.2 a.2.1.2 a.2.2.1.2 a.2.2.2.2)) (Cr := (fun (a : (V × ((List (Int ⊕ (Str ⊕ (List Str)))) × (List (Int ⊕ (Str ⊕ (List Str)))))) × (V × (List (Int ⊕ (Str ⊕ (List Str))))) × (V × (List (Int ⊕ (Str ⊕ (List Str))))) × (V × (List Int))) (r : Bool × ((List (Int ⊕ (Str ⊕ (List Str)))) × (List (Int ⊕ (Str ⊕ (List Str))))) × (List (Int ⊕ (Str ⊕ (List Str)))) × (List (Int ⊕ (Str ⊕ (List Str)))) × (List Int)) => ([⟨a.1.1, (O_History mg) r.2.1, some 0⟩, ⟨a.2.1.1, (oL (pSm pInt (pSm pStr (I_Unlike mg)))) r.2.2.1, some 1⟩, ⟨a.2.2.1.1, (oL (pSm pInt (pSm pStr (I_Unlike mg)))) r.2.2.2.1, some 2⟩, ⟨a.2.2.2.1, (oL pInt) r.2.2.2.2, some 3⟩] : List Cell))) FD sc_l_deed (fun _ => rfl) rfl (fun _ => ⟨rfl, rfl, rfl, rfl, trivial⟩) fun cdv A outer s H E hr Gs ⟨⟨v1, a1⟩, ⟨v2, a2⟩, ⟨v3, a3⟩, ⟨v4, a4⟩⟩ => ?_
  exact s_is (s_T (T := (M_l_next a4 (8 : Int)).bind fun r312 => (some (r312.1 : Int)).bind fun x313 => if (decide (x313 = (3 : Int))) = true then (atI a2 (-(1 : Int))).bind fun x316 => (M_l_push a1 a2 a3 x316).bind fun r317 => some (r317.1, r317.2.1, r317.2.2.1, r317.2.2.2, r312.2) else if (decide (x313 < (3 : Int))) = true then (M_l_state (r312.2)).bind fun r319 => (M_l_push a1 a2 a3 (r319.1)).bind fun r320 => some (r320.1, r320.2.1, r320.2.2.1, r320.2.2.2, r319.2) else if (decide (x313 < (6 : Int))) = true then (M_l_undo a1 a2 a3).bind fun r322 => some (r322.1, r322.2.1, r322.2.2.1, r322.2.2.2, r312.2) else if (decide (x313 = (6 : Int))) = true then (M_l_redo a1 a2 a3).bind fun r324 => some (r324.1, r324.2.1, r324.2.2.1, r324.2.2.2, r312.2) else (M_l_next (r312.2) ((a2.length : Int) + (2 : Int))).bind fun r325 => (M_l_back a1 a2 a3 ((r325.1) - (1 : Int))).bind fun r326 => some (r326.1, r326.2.1, r326.2.2.1, r326.2.2.2, r325.2)) (s_let (i := 4) pInt sc_l_deed.nd (x_kd (E := fun (b_ : ((Unit × Unit) × (Int × (List Int)))) => pInt b_.2.1) (x_OF_f (kk := 1) (E1 := (oL pInt)) (E2 := pInt) (s1 := fun (_ : Unit) (_ : Unit) => a4) (v1 := v4) k_l_next (hr.mono (by decide)) g_l_next F_l_next.kp b_l_next 3 (x_var (p := pV v4) 3) (fun _ => x_int (i := 8)) (fun _ _ => rfl))) fun (b314 : ((Unit × Unit) × (Int × (List Int)))) x313 => s_T (T := if (decide (x313 = (3 : Int))) = true then (atI a2 (-(1 : Int))).bind fun x316 => (M_l_push a1 a2 a3 x316).bind fun r317 => some (r317.1, r317.2.1, r317.2.2.1, r317.2.2.2, b314.2.2) else if (decide (x313 < (3 : Int))) = true then (M_l_state (b314.2.2)).bind fun r319 => (M_l_push a1 a2 a3 (r319.1)).bind fun r320 => some (r320.1, r320.2.1, r320.2.2.1, r320.2.2.2, r319.2) else if (decide (x313 < (6 : Int))) = true then (M_l_undo a1 a2 a3).bind fun r322 => some (r322.1, r322.2.1, r322.2.2.1, r322.2.2.2, b314.2.2) else if (decide (x313 = (6 : Int))) = true then (M_l_redo a1 a2 a3).bind fun r324 => some (r324.1, r324.2.1, r324.2.2.1, r324.2.2.2, b314.2.2) else (M_l_next (b314.2.2) ((a2.length : Int) + (2 : Int))).bind fun r325 => (M_l_back a1 a2 a3 ((r325.1) - (1 : Int))).bind fun r326 => some (r326.1, r326.2.1, r326.2.2.1, r326.2.2.2, r325.2)) (s_ifT (ins_F _) (t_kd (c := fun (b_ : (Unit × Unit)) => (decide (x313 = (3 : Int)))) (t_eqI (x_var (p := pInt x313) 4) (fun _ => x_int (i := 3)))) (fun (b315 : (Unit × Unit)) => s_T (T := (atI a2 (-(1 : Int))).bind fun x316 => (M_l_push a1 a2 a3 x316).bind fun r317 => some (r317.1, r317.2.1, r317.2.2.1, r317.2.2.2, b314.2.2)) (s_ret (P := (fun (r : Bool × ((List (Int ⊕ (Str ⊕ (List Str)))) × (List (Int ⊕ (Str ⊕ (List Str))))) × (List (Int ⊕ (Str ⊕ (List Str)))) × (List (Int ⊕ (Str ⊕ (List Str)))) × (List Int)) => [⟨v1, (O_History mg) r.2.1, some 0⟩, ⟨v2, (oL (pSm pInt (pSm pStr (I_Unlike mg)))) r.2.2.1, some 1⟩, ⟨v3, (oL (pSm pInt (pSm pStr (I_Unlike mg)))) r.2.2.2.1, some 2⟩, ⟨v4, (oL pInt) r.2.2.2.2, some 3⟩])) (Rp := (fun (r : Bool × ((List (Int ⊕ (Str ⊕ (List Str)))) × (List (Int ⊕ (Str ⊕ (List Str))))) × (List (Int ⊕ (Str ⊕ (List Str)))) × (List (Int ⊕ (Str ⊕ (List Str)))) × (List Int)) => pBl r.1)) (ι := id) (rv := fun (b : ((Unit × (Unit × (Unit × (((Unit × Unit) × (Int ⊕ (Str ⊕ (List Str)))) × Unit)))) × (Bool × ((List (Int ⊕ (Str ⊕ (List Str)))) × (List (Int ⊕ (Str ⊕ (List Str))))) × (List (Int ⊕ (Str ⊕ (List Str)))) × (List (Int ⊕ (Str ⊕ (List Str))))))) => (b.2.1, b.2.2.1, b.2.2.2.1, b.2.2.2.2, b314.2.2)) (fun _ _ _ h => by exact h) (x_kd (x_kd (E := fun (b_ : ((Unit × (Unit × (Unit × (((Unit × Unit) × (Int ⊕ (Str ⊕ (List Str)))) × Unit)))) × (Bool × ((List (Int ⊕ (Str ⊕ (List Str)))) × (List (Int ⊕ (Str ⊕ (List Str))))) × (List (Int ⊕ (Str ⊕ (List Str)))) × (List (Int ⊕ (Str ⊕ (List Str))))))) => pBl b_.2.1) (x_N (kk := 2) (xs := fun (b : (Unit × (Unit × (Unit × (((Unit × Unit) × (Int ⊕ (Str ⊕ (List Str)))) × Unit))))) => ((v1, a1), (v2, a2), (v3, a3), b.2.2.2.1.2)) [some 0, some 1, some 2] _ k_l_push (hr.mono (by decide)) g_l_push F_l_push.kp b_l_push (a_cons (x_var (p := pV v1) 0) (fun _ => a_cons (x_var (p := pV v2) 1) (fun _ => a_cons (x_var (p := pV v3) 2) (fun _ => a_cons (x_kd (E := fun (b_ : ((Unit × Unit) × (Int ⊕ (Str ⊕ (List Str))))) => (pSm pInt (pSm pStr (I_Unlike mg))) b_.2) (x_ixL (Ee := (pSm pInt (pSm pStr (I_Unlike mg)))) (x_var (p := pV v2) 1) (fun _ => x_kd (E := fun (b_ : Unit) => pInt (-(1 : Int))) (x_neg (x_int (i := 1)))) (fun _ _ => rdO 1))) (fun _ => a_nil))))) (fun _ _ _ ok => (((ok.out (j := 2) rfl).out (j := 2) rfl).out (j := 2) rfl)) (fun _ _ _ _ ok => (((ok.back (j := 2) rfl).back (j := 2) rfl).back (j := 2) rfl)) (hn := fun _ _ => ⟨rfl, rfl, rfl, trivial⟩)))) (fun _ => List.Sublist.refl _))) fun (b315 : (Unit × Unit)) => s_T (T := if (decide (x313 < (3 : Int))) = true then (M_l_state (b314.2.2)).bind fun r319 => (M_l_push a1 a2 a3 (r319.1)).bind fun r320 => some (r320.1, r320.2.1, r320.2.2.1, r320.2.2.2, r319.2) else if (decide (x313 < (6 : Int))) = true then (M_l_undo a1 a2 a3).bind fun r322 => some (r322.1, r322.2.1, r322.2.2.1, r322.2.2.2, b314.2.2) else if (decide (x313 = (6 : Int))) = true then (M_l_redo a1 a2 a3).bind fun r324 => some (r324.1, r324.2.1, r324.2.2.1, r324.2.2.2, b314.2.2) else (M_l_next (b314.2.2) ((a2.length : Int) + (2 : Int))).bind fun r325 => (M_l_back a1 a2 a3 ((r325.1) - (1 : Int))).bind fun r326 => some (r326.1, r326.2.1, r326.2.2.1, r326.2.2.2, r325.2)) (s_ifT (ins_F _) (t_kd (c := fun (b_ : (Unit × Unit)) => (decide (x313 < (3 : Int)))) (t_lt (x_var (p := pInt x313) 4) (fun _ => x_int (i := 3)))) (fun (b318 : (Unit × Unit)) => s_T (T := (M_l_state (b314.2.2)).bind fun r319 => (M_l_push a1 a2 a3 (r319.1)).bind fun r320 => some (r320.1, r320.2.1, r320.2.2.1, r320.2.2.2, r319.2)) (s_ret (P := (fun (r : Bool × ((List (Int ⊕ (Str ⊕ (List Str)))) × (List (Int ⊕ (Str ⊕ (List Str))))) × (List (Int ⊕ (Str ⊕ (List Str)))) × (List (Int ⊕ (Str ⊕ (List Str)))) × (List Int)) => [⟨v1, (O_History mg) r.2.1, some 0⟩, ⟨v2, (oL (pSm pInt (pSm pStr (I_Unlike mg)))) r.2.2.1, some 1⟩, ⟨v3, (oL (pSm pInt (pSm pStr (I_Unlike mg)))) r.2.2.2.1, some 2⟩, ⟨v4, (oL pInt) r.2.2.2.2, some 3⟩])) (Rp := (fun (r : Bool × ((List (Int ⊕ (Str ⊕ (List Str)))) × (List (Int ⊕ (Str ⊕ (List Str))))) × (List (Int ⊕ (Str ⊕ (List Str)))) × (List (Int ⊕ (Str ⊕ (List Str)))) × (List Int)) => pBl r.1)) (ι := id) (rv := fun (b : ((Unit × (Unit × (Unit × ((Unit × ((Int ⊕ (Str ⊕ (List Str))) × (List Int))) × Unit)))) × (Bool × ((List (Int ⊕ (Str ⊕ (List Str)))) × (List (Int ⊕ (Str ⊕ (List Str))))) × (List (Int ⊕ (Str ⊕ (List Str)))) × (List (Int ⊕ (Str ⊕ (List Str))))))) => (b.2.1, b.2.2.1, b.2.2.2.1, b.2.2.2.2, b.1.2.2.2.1.2.2)) (fun _ _ _ h => by exact h) (x_kd (x_kd (E := fun (b_ : ((Unit × (Unit × (Unit × ((Unit × ((Int ⊕ (Str ⊕ (List Str))) × (List Int))) × Unit)))) × (Bool × ((List (Int ⊕ (Str ⊕ (List Str)))) × (List (Int ⊕ (Str ⊕ (List Str))))) × (List (Int ⊕ (Str ⊕ (List Str)))) × (List (Int ⊕ (Str ⊕ (List Str))))))) => pBl b_.2.1) (x_N (kk := 2) (xs := fun (b : (Unit × (Unit × (Unit × ((Unit × ((Int ⊕ (Str ⊕ (List Str))) × (List Int))) × Unit))))) => ((v1, a1), (v2, a2), (v3, a3), b.2.2.2.1.2.1)) [some 0, some 1, some 2] _ k_l_push (hr.mono (by decide)) g_l_push F_l_push.kp b_l_push (a_cons (x_var (p := pV v1) 0) (fun _ => a_cons (x_var (p := pV v2) 1) (fun _ => a_cons (x_var (p := pV v3) 2) (fun _ => a_cons (x_kd (E := fun (b_ : (Unit × ((Int ⊕ (Str ⊕ (List Str))) × (List Int)))) => (pSm pInt (pSm pStr (I_Unlike mg))) b_.2.1) (x_O_f (kk := 4) (E1 := (oL pInt)) (s1 := fun (_ : Unit) => b314.2.2) (v1 := v4) k_l_state (hr.mono (by decide)) g_l_state F_l_state.kp b_l_state 3 (x_var (p := pV v4) 3) (fun _ => rfl))) (fun _ => a_nil))))) (fun _ _ _ ok => (((ok.out (j := 2) rfl).out (j := 2) rfl).out (j := 2) rfl)) (fun _ _ _ _ ok => (((ok.back (j := 2) rfl).back (j := 2) rfl).back (j := 2) rfl)) (hn := fun _ _ => ⟨rfl, rfl, rfl, trivial⟩)))) (fun _ => List.Sublist.refl _))) fun (b318 : (Unit × Unit)) => s_T (T := if (decide (x313 < (6 : Int))) = true then (M_l_undo a1 a2 a3).bind fun r322 => some (r322.1, r322.2.1, r322.2.2.1, r322.2.2.2, b314.2.2) else if (decide (x313 = (6 : Int))) = true then (M_l_redo a1 a2 a3).bind fun r324 => some (r324.1, r324.2.1, r324.2.2.1, r324.2.2.2, b314.2.2) else (M_l_next (b314.2.2) ((a2.length : Int) + (2 : Int))).bind fun r325 => (M_l_back a1 a2 a3 ((r325.1) - (1 : Int))).bind fun r326 => some (r326.1, r326.2.1, r326.2.2.1, r326.2.2.2, r325.2)) (s_ifT (ins_F _) (t_kd (c := fun (b_ : (Unit × Unit)) => (decide (x313 < (6 : Int)))) (t_lt (x_var (p := pInt x313) 4) (fun _ => x_int (i := 6)))) (fun (b321 : (Unit × Unit)) => s_T (T := (M_l_undo a1 a2 a3).bind fun r322 => some (r322.1, r322.2.1, r322.2.2.1, r322.2.2.2, b314.2.2)) (s_ret (P := (fun (r : Bool × ((List (Int ⊕ (Str ⊕ (List Str)))) × (List (Int ⊕ (Str ⊕ (List Str))))) × (List (Int ⊕ (Str ⊕ (List Str)))) × (List (Int ⊕ (Str ⊕ (List Str)))) × (List Int)) => [⟨v1, (O_History mg) r.2.1, some 0⟩, ⟨v2, (oL (pSm pInt (pSm pStr (I_Unlike mg)))) r.2.2.1, some 1⟩, ⟨v3, (oL (pSm pInt (pSm pStr (I_Unlike mg)))) r.2.2.2.1, some 2⟩, ⟨v4, (oL pInt) r.2.2.2.2, some 3⟩])) (Rp := (fun (r : Bool × ((List (Int ⊕ (Str ⊕ (List Str)))) × (List (Int ⊕ (Str ⊕ (List Str))))) × (List (Int ⊕ (Str ⊕ (List Str)))) × (List (Int ⊕ (Str ⊕ (List Str)))) × (List Int)) => pBl r.1)) (ι := id) (rv := fun (b : ((Unit × (Unit × (Unit × Unit))) × (Bool × ((List (Int ⊕ (Str ⊕ (List Str)))) × (List (Int ⊕ (Str ⊕ (List Str))))) × (List (Int ⊕ (Str ⊕ (List Str)))) × (List (Int ⊕ (Str ⊕ (List Str))))))) => (b.2.1, b.2.2.1, b.2.2.2.1, b.2.2.2.2, b314.2.2)) (fun _ _ _ h => by exact h) (x_kd (x_kd (E := fun (b_ : ((Unit × (Unit × (Unit × Unit))) × (Bool × ((List (Int ⊕ (Str ⊕ (List Str)))) × (List (Int ⊕ (Str ⊕ (List Str))))) × (List (Int ⊕ (Str ⊕ (List Str)))) × (List (Int ⊕ (Str ⊕ (List Str))))))) => pBl b_.2.1) (x_N (kk := 3) (xs := fun (b : (Unit × (Unit × (Unit × Unit)))) => ((v1, a1), (v2, a2), (v3, a3))) [some 0, some 1, some 2] _ k_l_undo (hr.mono (by decide)) g_l_undo F_l_undo.kp b_l_undo (a_cons (x_var (p := pV v1) 0) (fun _ => a_cons (x_var (p := pV v2) 1) (fun _ => a_cons (x_var (p := pV v3) 2) (fun _ => a_nil)))) (fun _ _ _ ok => (((ok.out (j := 2) rfl).out (j := 2) rfl).out (j := 2) rfl)) (fun _ _ _ _ ok => (((ok.back (j := 2) rfl).back (j := 2) rfl).back (j := 2) rfl)) (hn := fun _ _ => ⟨rfl, rfl, rfl, trivial⟩)))) (fun _ => List.Sublist.refl _))) fun (b321 : (Unit × Unit)) => s_T (T := if (decide (x313 = (6 : Int))) = true then (M_l_redo a1 a2 a3).bind fun r324 => some (r324.1, r324.2.1, r324.2.2.1, r324.2.2.2, b314.2.2) else (M_l_next (b314.2.2) ((a2.length : Int) + (2 : Int))).bind fun r325 => (M_l_back a1 a2 a3 ((r325.1) - (1 : Int))).bind fun r326 => some (r326.1, r326.2.1, r326.2.2.1, r326.2.2.2, r325.2)) (s_ifT (ins_F _) (t_kd (c := fun (b_ : (Unit × Unit)) => (decide (x313 = (6 : Int)))) (t_eqI (x_var (p := pInt x313) 4) (fun _ => x_int (i := 6)))) (fun (b323 : (Unit × Unit)) => s_T (T := (M_l_redo a1 a2 a3).bind fun r324 => some (r324.1, r324.2.1, r324.2.2.1, r324.2.2.2, b314.2.2)) (s_ret (P := (fun (r : Bool × ((List (Int ⊕ (Str ⊕ (List Str)))) × (List (Int ⊕ (Str ⊕ (List Str))))) × (List (Int ⊕ (Str ⊕ (List Str)))) × (List (Int ⊕ (Str ⊕ (List Str)))) × (List Int)) => [⟨v1, (O_History mg) r.2.1, some 0⟩, ⟨v2, (oL (pSm pInt (pSm pStr (I_Unlike mg)))) r.2.2.1, some 1⟩, ⟨v3, (oL (pSm pInt (pSm pStr (I_Unlike mg)))) r.2.2.2.1, some 2⟩, ⟨v4, (oL pInt) r.2.2.2.2, some 3⟩])) (Rp := (fun (r : Bool × ((List (Int ⊕ (Str ⊕ (List Str)))) × (List (Int ⊕ (Str ⊕ (List Str))))) × (List (Int ⊕ (Str ⊕ (List Str)))) × (List (Int ⊕ (Str ⊕ (List Str)))) × (List Int)) => pBl r.1)) (ι := id) (rv := fun (b : ((Unit × (Unit × (Unit × Unit))) × (Bool × ((List (Int ⊕ (Str ⊕ (List Str)))) × (List (Int ⊕ (Str ⊕ (List Str))))) × (List (Int ⊕ (Str ⊕ (List Str)))) × (List (Int ⊕ (Str ⊕ (List Str))))))) => (b.2.1, b.2.2.1, b.2.2.2.1, b.2.2.2.2, b314.2.2)) (fun _ _ _ h => by exact h) (x_kd (x_kd (E := fun (b_ : ((Unit × (Unit × (Unit × Unit))) × (Bool × ((List (Int ⊕ (Str ⊕ (List Str)))) × (List (Int ⊕ (Str ⊕ (List Str))))) × (List (Int ⊕ (Str ⊕ (List Str)))) × (List (Int ⊕ (Str ⊕ (List Str))))))) => pBl b_.2.1) (x_N (kk := 3) (xs := fun (b : (Unit × (Unit × (Unit × Unit)))) => ((v1, a1), (v2, a2), (v3, a3))) [some 0, some 1, some 2] _ k_l_redo (hr.mono (by decide)) g_l_redo F_l_redo.kp b_l_redo (a_cons (x_var (p := pV v1) 0) (fun _ => a_cons (x_var (p := pV v2) 1) (fun _ => a_cons (x_var (p := pV v3) 2) (fun _ => a_nil)))) (fun _ _ _ ok => (((ok.out (j := 2) rfl).out (j := 2) rfl).out (j := 2) rfl)) (fun _ _ _ _ ok => (((ok.back (j := 2) rfl).back (j := 2) rfl).back (j := 2) rfl)) (hn := fun _ _ => ⟨rfl, rfl, rfl, trivial⟩)))) (fun _ => List.Sublist.refl _))) fun (b323 : (Unit × Unit)) => s_T (T := (M_l_next (b314.2.2) ((a2.length : Int) + (2 : Int))).bind fun r325 => (M_l_back a1 a2 a3 ((r325.1) - (1 : Int))).bind fun r326 => some (r326.1, r326.2.1, r326.2.2.1, r326.2.2.2, r325.2)) (s_ret (P := (fun (r : Bool × ((List (Int ⊕ (Str ⊕ (List Str)))) × (List (Int ⊕ (Str ⊕ (List Str))))) × (List (Int ⊕ (Str ⊕ (List Str)))) × (List (Int ⊕ (Str ⊕ (List Str)))) × (List Int)) => [⟨v1, (O_History mg) r.2.1, some 0⟩, ⟨v2, (oL (pSm pInt (pSm pStr (I_Unlike mg)))) r.2.2.1, some 1⟩, ⟨v3, (oL (pSm pInt (pSm pStr (I_Unlike mg)))) r.2.2.2.1, some 2⟩, ⟨v4, (oL pInt) r.2.2.2.2, some 3⟩])) (Rp := (fun (r : Bool × ((List (Int ⊕ (Str ⊕ (List Str)))) × (List (Int ⊕ (Str ⊕ (List Str))))) × (List (Int ⊕ (Str ⊕ (List Str)))) × (List (Int ⊕ (Str ⊕ (List Str)))) × (List Int)) => pBl r.1)) (ι := id) (rv := fun (b : ((Unit × (Unit × (Unit × ((((Unit × (Unit × Unit)) × (Int × (List Int))) × Unit) × Unit)))) × (Bool × ((List (Int ⊕ (Str ⊕ (List Str)))) × (List (Int ⊕ (Str ⊕ (List Str))))) × (List (Int ⊕ (Str ⊕ (List Str)))) × (List (Int ⊕ (Str ⊕ (List Str))))))) => (b.2.1, b.2.2.1, b.2.2.2.1, b.2.2.2.2, b.1.2.2.2.1.1.2.2)) (fun _ _ _ h => by exact h) (x_kd (x_kd (E := fun (b_ : ((Unit × (Unit × (Unit × ((((Unit × (Unit × Unit)) × (Int × (List Int))) × Unit) × Unit)))) × (Bool × ((List (Int ⊕ (Str ⊕ (List Str)))) × (List (Int ⊕ (Str ⊕ (List Str))))) × (List (Int ⊕ (Str ⊕ (List Str)))) × (List (Int ⊕ (Str ⊕ (List Str))))))) => pBl b_.2.1) (x_N (kk := 3) (xs := fun (b : (Unit × (Unit × (Unit × ((((Unit × (Unit × Unit)) × (Int × (List Int))) × Unit) × Unit))))) => ((v1, a1), (v2, a2), (v3, a3), ((b.2.2.2.1.1.2.1) - (1 : Int)))) [some 0, some 1, some 2] _ k_l_back (hr.mono (by decide)) g_l_back F_l_back.kp b_l_back (a_cons (x_var (p := pV v1) 0) (fun _ => a_cons (x_var (p := pV v2) 1) (fun _ => a_cons (x_var (p := pV v3) 2) (fun _ => a_cons (x_kd (E := fun (b_ : (((Unit × (Unit × Unit)) × (Int × (List Int))) × Unit)) => pInt ((b_.1.2.1) - (1 : Int))) (x_sub (x_kd (E := fun (b_ : ((Unit × (Unit × Unit)) × (Int × (List Int)))) => pInt b_.2.1) (x_OF_f (kk := 1) (E1 := (oL pInt)) (E2 := pInt) (s1 := fun (_ : Unit) (_ : (Unit × Unit)) => b314.2.2) (v1 := v4) k_l_next (hr.mono (by decide)) g_l_next F_l_next.kp b_l_next 3 (x_var (p := pV v4) 3) (fun _ => x_kd (E := fun (b_ : (Unit × Unit)) => pInt ((a2.length : Int) + (2 : Int))) (x_add (x_kd (E := fun (b_ : Unit) => pInt (a2.length : Int)) (x_lenL (Ee := (pSm pInt (pSm pStr (I_Unlike mg)))) m_len (x_var (p := pV v2) 1) (fun _ => rdO 1))) (fun _ => x_int (i := 2)))) (fun _ _ => rfl))) (fun _ => x_int (i := 1)))) (fun _ => a_nil))))) (fun _ _ _ ok => (((ok.out (j := 2) rfl).out (j := 2) rfl).out (j := 2) rfl)) (fun _ _ _ _ ok => (((ok.back (j := 2) rfl).back (j := 2) rfl).back (j := 2) rfl)) (hn := fun _ _ => ⟨rfl, rfl, rfl, trivial⟩)))) (fun _ => List.Sublist.refl _)))))))) (by unfold M_l_deed; rfl)
end
end My
end
section
set_option maxHeartbeats 4000000
set_option synthInstance.maxSize 2000
namespace My
open PySem PySem.Spec PyProof.Rows L2 L3
section
variable {P : Program} {w : World} {K : PySem.W.Frag} {mg : Str → Option Value} {base : Heap}
theorem sc_l_down_and_up : FnScope ["_law_history", "_law_before", "_law_after", "_law_turn", "_law_target"] ["_law_history", "_law_before", "_law_after"] (defScope (top 45)) := ⟨rfl, rfl, rfl, by decide +kernel, rfl, by decide +kernel, by decide +kernel⟩
theorem ok_l_down_and_up {f : Addr} {fd : FuncData} (C : Ev P K mg) (FD : FnP K "_law_down_and_up" (top 45) f fd) : FnOk P w K mg base CX0 4 f fd ["_law_history", "_law_before", "_law_after"] (SpN (fun (a : (V × ((List (Int ⊕ (Str ⊕ (List Str)))) × (List (Int ⊕ (Str ⊕ (List Str)))))) × (V × (List (Int ⊕ (Str ⊕ (List Str))))) × (V × (List (Int ⊕ (Str ⊕ (List Str)))))) => ([pV a.1.1, pV a.2.1.1, pV a.2.2.1] : List Pd)) (fun (a : (V × ((List (Int ⊕ (Str ⊕ (List Str)))) × (List (Int ⊕ (Str ⊕ (List Str)))))) × (V × (List (Int ⊕ (Str ⊕ (List Str))))) × (V × (List (Int ⊕ (Str ⊕ (List Str)))))) => ([⟨a.1.1, (O_History mg) a.1.2, some 0⟩, ⟨a.2.1.1, (oL (pSm pInt (pSm pStr (I_Unlike mg)))) a.2.1.2, some 1⟩, ⟨a.2.2.1, (oL (pSm pInt (pSm pStr (I_Unlike mg)))) a.2.2.2, some 2⟩] : List Cell)) (fun (a : (V × ((List (Int ⊕ (Str ⊕ (List Str)))) × (List (Int ⊕ (Str ⊕ (List Str)))))) × (V × (List (Int ⊕ (Str ⊕ (List Str))))) × (V × (List (Int ⊕ (Str ⊕ (List Str)))))) => M_l_down_and_up a.1.2 a.2.1.2 a.2.2.2) (fun (a : (V × ((List (Int ⊕ (Str ⊕ (List Str)))) × (List (Int ⊕ (Str ⊕ (List Str)))))) × (V × (List (Int ⊕ (Str ⊕ (List Str))))) × (V × (List (Int ⊕ (Str ⊕ (List Str)))))) (r : Bool × ((List (Int ⊕ (Str ⊕ (List Str)))) × (List (Int ⊕ (Str ⊕ (List Str))))) × (List (Int ⊕ (Str ⊕ (List Str)))) × (List (Int ⊕ (Str ⊕ (List Str))))) => ([⟨a.1.1, (O_History mg) r.2.1, some 0⟩, ⟨a.2.1.1, (oL (pSm pInt (pSm pStr (I_Unlike mg)))) r.2.2.1, some 1⟩, ⟨a.2.2.1, (oL (pSm pInt (pSm pStr (I_Unlike mg)))) r.2.2.2, some 2⟩] : List Cell)) (fun (r : Bool × ((List (Int ⊕ (Str ⊕ (List Str)))) × (List (Int ⊕ (Str ⊕ (List Str))))) × (List (Int ⊕ (Str ⊕ (List Str)))) × (List (Int ⊕ (Str ⊕ (List Str))))) => pBl r.1)) := by
  have m_len := C.m_len
  have m_range := C.m_range
  obtain ⟨f_l_push, fd_l_push, F_l_push, g_l_push⟩ := C.f_l_push
  have k_l_push := ok_l_push (P := P) (w := w) (base := base) C F_l_push
  have b_l_push : Binds K fd_l_push ["_law_history", "_law_before", "_law_after", "_law_pushed"] [] := F_l_push.bindsN fun _ _ _ _ _ _ us hl => match us, hl with | [_, _, _, _], _ => rfl
  obtain ⟨f_l_looks, fd_l_looks, F_l_looks, g_l_looks⟩ := C.f_l_looks
  have k_l_looks := ok_l_looks (P := P) (w := w) (base := base) C F_l_looks
  have b_l_looks : Binds K fd_l_looks ["_law_history", "_law_before", "_law_after"] [] := F_l_looks.bindsN fun _ _ _ _ _ _ us hl => match us, hl with | [_, _, _], _ => rfl
  obtain ⟨f_l_redo, fd_l_redo, F_l_redo, g_l_redo⟩ := C.f_l_redo
  have k_l_redo := ok_l_redo (P := P) (w := w) (base := base) C F_l_redo
  have b_l_redo : Binds K fd_l_redo ["_law_history", "_law_before", "_law_after"] [] := F_l_redo.bindsN fun _ _ _ _ _ _ us hl => match us, hl with | [_, _, _], _ => rfl
  obtain ⟨f_l_back, fd_l_back, F_l_back, g_l_back⟩ := C.f_l_back
  have k_l_back := ok_l_back (P := P) (w := w) (base := base) C F_l_back
  have b_l_back : Binds K fd_l_back ["_law_history", "_law_before", "_law_after", "_law_target"] [] := F_l_back.bindsN fun _ _ _ _ _ _ us hl => match us, hl with | [_, _, _, _], _ => rfl
  obtain ⟨f_l_undo, fd_l_undo, F_l_undo, g_l_undo⟩ := C.f_l_undo
  have k_l_undo := ok_l_undo (P := P) (w := w) (base := base) C F_l_undo
  have b_l_undo : Binds K fd_l_undo ["_law_history", "_law_before", "_law_after"] [] := F_l_undo.bindsN fun _ _ _ _ _ _ us hl => match us, hl with | [_, _, _], _ => rfl
  refine fn_N (A := (fun (a : (V × ((List (Int ⊕ (Str ⊕ (List Str)))) × (List (Int ⊕ (Str ⊕ (List Str)))))) × (V × (List (Int ⊕ (Str ⊕ (List Str))))) × (V × (List (Int ⊕ (Str ⊕ (List Str)))))) => ([pV a.1.1, pV a.2.1.1, pV a.2.2.1] : List Pd))) (C := (fun (a : (V × ((List (Int ⊕ (Str ⊕ (List Str)))) × (List (Int ⊕ (Str ⊕ (List Str)))))) × (V × (List (Int ⊕ (Str ⊕ (List Str))))) × (V × (List (Int ⊕ (Str ⊕ (List Str)))))) => ([⟨a.1.1, (O_History mg) a.1.2, some 0⟩, ⟨a.2.1.1, (oL (pSm pInt (pSm pStr (I_Unlike mg)))) a.2.1.2, some 1⟩, ⟨a.2.2.1, (oL (pSm pInt (pSm pStr (I_Unlike mg)))) a.2.2.2, some 2⟩] : List Cell))) (Mf := (fun (a : (V × ((List (Int ⊕ (Str ⊕ (List Str)))) × (List (Int ⊕ (Str ⊕ (List Str)))))) × (V × (List (Int ⊕ (Str ⊕ (List Str))))) × (V × (List (Int ⊕ (Str ⊕ (List Str)))))) => M_l_down_and_up a.1.2 a.2.1.2 a.2.2.2)) (Cr := (fun (a : (V × ((List (Int ⊕ (Str ⊕ (List Str)))) × (List (Int ⊕ (Str ⊕ (List Str)))))) × (V × (List (Int ⊕ (Str ⊕ (List Str))))) × (V × (List (Int ⊕ (Str ⊕ (List Str)))))) (r : Bool × ((List (Int ⊕ (Str ⊕ (List Str)))) × (List (Int ⊕ (Str ⊕ (List Str))))) × (List (Int ⊕ (Str ⊕ (List Str)))) × (List (Int ⊕ (Str ⊕ (List Str))))) => ([⟨a.1.1, (O_History mg) r.2.1, some 0⟩, ⟨a.2.1.1, (oL (pSm pInt (pSm pStr (I_Unlike mg)))) r.2.2.1, some 1⟩, ⟨a.2.2.1, (oL (pSm pInt (pSm pStr (I_Unlike mg)))) r.2.2.2, some 2⟩] : List Cell))) FD sc_l_down_and_up (fun _ => rfl) rfl (fun _ => ⟨rfl, rfl, rfl, trivial⟩) fun cdv A outer s H E hr Gs ⟨⟨v1, a1⟩, ⟨v2, a2⟩, ⟨v3, a3⟩⟩ => ?_
  exact s_is (s_T (T := grd (rg (a2.length : Int) = true) ((forL (rngL 0 (a2.length : Int).toNat) ((a1, a2, a3) : ((List (Int ⊕ (Str ⊕ (List Str)))) × (List (Int ⊕ (Str ⊕ (List Str))))) × (List (Int ⊕ (Str ⊕ (List Str)))) × (List (Int ⊕ (Str ⊕ (List Str))))) fun x329 s328 => (M_l_undo (s328.1) (s328.2.1) (s328.2.2)).bind fun r363 => ((if (!(r363.1)) = true then some (true, ()) else (M_l_looks (r363.2.1) (r363.2.2.1) (r363.2.2.2)).bind fun r366 => some ((!r366), ()))).bind fun c367 => if c367.1 = true then inB (some (Tm.rt (false, r363.2.1, r363.2.2.1, r363.2.2.2))) else some (Bo.nx (r363.2.1, r363.2.2.1, r363.2.2.2))).bind (boK (fun s330 => grd (rg (((s330.2.2).length : Int) + (1 : Int)) = true) ((forL (rngL 0 (((s330.2.2).length : Int) + (1 : Int)).toNat) ((s330.1, s330.2.1, s330.2.2) : ((List (Int ⊕ (Str ⊕ (List Str)))) × (List (Int ⊕ (Str ⊕ (List Str))))) × (List (Int ⊕ (Str ⊕ (List Str)))) × (List (Int ⊕ (Str ⊕ (List Str))))) fun x333 s332 => (M_l_redo (s332.1) (s332.2.1) (s332.2.2)).bind fun r357 => ((if (!(r357.1)) = true then some (true, ()) else (M_l_looks (r357.2.1) (r357.2.2.1) (r357.2.2.2)).bind fun r360 => some ((!r360), ()))).bind fun c361 => if c361.1 = true then inB (some (Tm.rt (false, r357.2.1, r357.2.2.1, r357.2.2.2))) else some (Bo.nx (r357.2.1, r357.2.2.1, r357.2.2.2))).bind (boK (fun s334 => grd (dv (2 : Int) = true) ((forL ([(-(1 : Int)), ((s334.2.1).length : Int), (((s334.2.1).length : Int) - (1 : Int)), (((s334.2.1).length : Int) / (2 : Int)), (0 : Int)]) ((s334.1, s334.2.1, s334.2.2) : ((List (Int ⊕ (Str ⊕ (List Str)))) × (List (Int ⊕ (Str ⊕ (List Str))))) × (List (Int ⊕ (Str ⊕ (List Str)))) × (List (Int ⊕ (Str ⊕ (List Str))))) fun x337 s336 => (M_l_back (s336.1) (s336.2.1) (s336.2.2) x337).bind fun r351 => ((if (!(r351.1)) = true then some (true, ()) else (M_l_looks (r351.2.1) (r351.2.2.1) (r351.2.2.2)).bind fun r354 => some ((!r354), ()))).bind fun c355 => if c355.1 = true then inB (some (Tm.rt (false, r351.2.1, r351.2.2.1, r351.2.2.2))) else some (Bo.nx (r351.2.1, r351.2.2.1, r351.2.2.2))).bind (boK (fun s338 => (atI (s338.2.1) (-(1 : Int))).bind fun x339 => (M_l_push (s338.1) (s338.2.1) (s338.2.2) x339).bind fun r340 => ((if (!(r340.1)) = true then some (true, ()) else (M_l_looks (r340.2.1) (r340.2.2.1) (r340.2.2.2)).bind fun r343 => some ((!r343), ()))).bind fun c344 => if c344.1 = true then some (false, r340.2.1, r340.2.2.1, r340.2.2.2) else (M_l_redo (r340.2.1) (r340.2.2.1) (r340.2.2.2)).bind fun r346 => ((if r346.1 = true then (M_l_looks (r346.2.1) (r346.2.2.1) (r346.2.2.2)).bind fun r349 => some (r349, ()) else some (false, ()))).bind fun c350 => some (c350.1, r346.2.1, r346.2.2.1, r346.2.2.2)) id))) id))) id))) (s_for PassesOwn.never (fun (b_ : Unit) (s_ : ((List (Int ⊕ (Str ⊕ (List Str)))) × (List (Int ⊕ (Str ⊕ (List Str))))) × (List (Int ⊕ (Str ⊕ (List Str)))) × (List (Int ⊕ (Str ⊕ (List Str))))) => ([some (pV v1), some (pV v2), some (pV v3), none, none], [⟨v1, (O_History mg) s_.1, some 0⟩, ⟨v2, (oL (pSm pInt (pSm pStr (I_Unlike mg)))) s_.2.1, some 1⟩, ⟨v3, (oL (pSm pInt (pSm pStr (I_Unlike mg)))) s_.2.2, some 2⟩])) (fun (b_ : Unit) => (a1, a2, a3)) (ι := id) (R := (RF ⟨H, Gs⟩ (fun (r : Bool × ((List (Int ⊕ (Str ⊕ (List Str)))) × (List (Int ⊕ (Str ⊕ (List Str))))) × (List (Int ⊕ (Str ⊕ (List Str)))) × (List (Int ⊕ (Str ⊕ (List Str))))) => [⟨v1, (O_History mg) r.2.1, some 0⟩, ⟨v2, (oL (pSm pInt (pSm pStr (I_Unlike mg)))) r.2.2.1, some 1⟩, ⟨v3, (oL (pSm pInt (pSm pStr (I_Unlike mg)))) r.2.2.2, some 2⟩]) (fun (r : Bool × ((List (Int ⊕ (Str ⊕ (List Str)))) × (List (Int ⊕ (Str ⊕ (List Str))))) × (List (Int ⊕ (Str ⊕ (List Str)))) × (List (Int ⊕ (Str ⊕ (List Str))))) => pBl r.1))) (i_rng1 m_range (x_kd (E := fun (b_ : Unit) => pInt (a2.length : Int)) (x_lenL (Ee := (pSm pInt (pSm pStr (I_Unlike mg)))) m_len (x_var (p := pV v2) 1) (fun _ => rdO 1)))) (pg_name (i := 3) sc_l_down_and_up.nd rfl (by first | exact .inl rfl | exact .inr rfl)) (tg_name 3) (fun _ => (by exact ⟨rfl, rfl, rfl, trivial⟩)) (fun _ => List.Sublist.refl _) (fun b327 x329 s328 => s_T (T := (M_l_undo (s328.1) (s328.2.1) (s328.2.2)).bind fun r363 => ((if (!(r363.1)) = true then some (true, ()) else (M_l_looks (r363.2.1) (r363.2.2.1) (r363.2.2.2)).bind fun r366 => some ((!r366), ()))).bind fun c367 => if c367.1 = true then inB (some (Tm.rt (false, r363.2.1, r363.2.2.1, r363.2.2.2))) else some (Bo.nx (r363.2.1, r363.2.2.1, r363.2.2.2))) (s_ifB ins_T (t_kd (c := fun (b_ : (((Unit × (Unit × (Unit × Unit))) × (Bool × ((List (Int ⊕ (Str ⊕ (List Str)))) × (List (Int ⊕ (Str ⊕ (List Str))))) × (List (Int ⊕ (Str ⊕ (List Str)))) × (List (Int ⊕ (Str ⊕ (List Str)))))) × (Bool × Unit))) => b_.2.1) (PW.pt (w_orM (ΔS := fun (b_ : ((Unit × (Unit × (Unit × Unit))) × (Bool × ((List (Int ⊕ (Str ⊕ (List Str)))) × (List (Int ⊕ (Str ⊕ (List Str))))) × (List (Int ⊕ (Str ⊕ (List Str)))) × (List (Int ⊕ (Str ⊕ (List Str))))))) (s_ : Unit) => [⟨v1, (O_History mg) b_.2.2.1, some 0⟩, ⟨v2, (oL (pSm pInt (pSm pStr (I_Unlike mg)))) b_.2.2.2.1, some 1⟩, ⟨v3, (oL (pSm pInt (pSm pStr (I_Unlike mg)))) b_.2.2.2.2, some 2⟩]) (s1 := fun (b_ : ((Unit × (Unit × (Unit × Unit))) × (Bool × ((List (Int ⊕ (Str ⊕ (List Str)))) × (List (Int ⊕ (Str ⊕ (List Str))))) × (List (Int ⊕ (Str ⊕ (List Str)))) × (List (Int ⊕ (Str ⊕ (List Str))))))) => ()) (s2 := fun (b_ : ((Unit × (Unit × (Unit × Unit))) × (Bool × ((List (Int ⊕ (Str ⊕ (List Str)))) × (List (Int ⊕ (Str ⊕ (List Str))))) × (List (Int ⊕ (Str ⊕ (List Str)))) × (List (Int ⊕ (Str ⊕ (List Str))))))) (c_ : ((Unit × (Unit × Unit)) × Bool)) => ()) (t_kd (c := fun (b_ : ((Unit × (Unit × (Unit × Unit))) × (Bool × ((List (Int ⊕ (Str ⊕ (List Str)))) × (List (Int ⊕ (Str ⊕ (List Str))))) × (List (Int ⊕ (Str ⊕ (List Str)))) × (List (Int ⊕ (Str ⊕ (List Str))))))) => (!(b_.2.1))) (t_not (t_kd (c := fun (b_ : ((Unit × (Unit × (Unit × Unit))) × (Bool × ((List (Int ⊕ (Str ⊕ (List Str)))) × (List (Int ⊕ (Str ⊕ (List Str))))) × (List (Int ⊕ (Str ⊕ (List Str)))) × (List (Int ⊕ (Str ⊕ (List Str))))))) => b_.2.1) (t_val (x_kd (E := fun (b_ : ((Unit × (Unit × (Unit × Unit))) × (Bool × ((List (Int ⊕ (Str ⊕ (List Str)))) × (List (Int ⊕ (Str ⊕ (List Str))))) × (List (Int ⊕ (Str ⊕ (List Str)))) × (List (Int ⊕ (Str ⊕ (List Str))))))) => pBl b_.2.1) (x_N (kk := 3) (xs := fun (b : (Unit × (Unit × (Unit × Unit)))) => ((v1, s328.1), (v2, s328.2.1), (v3, s328.2.2))) [some 0, some 1, some 2] _ k_l_undo (hr.mono (by decide)) g_l_undo F_l_undo.kp b_l_undo (a_cons (x_var (p := pV v1) 0) (fun _ => a_cons (x_var (p := pV v2) 1) (fun _ => a_cons (x_var (p := pV v3) 2) (fun _ => a_nil)))) (fun _ _ _ ok => (((ok.out (j := 2) rfl).out (j := 2) rfl).out (j := 2) rfl)) (fun _ _ _ _ ok => (((ok.back (j := 2) rfl).back (j := 2) rfl).back (j := 2) rfl)) (hn := fun _ _ => ⟨rfl, rfl, rfl, trivial⟩))))))) (fun (b365 : ((Unit × (Unit × (Unit × Unit))) × (Bool × ((List (Int ⊕ (Str ⊕ (List Str)))) × (List (Int ⊕ (Str ⊕ (List Str))))) × (List (Int ⊕ (Str ⊕ (List Str)))) × (List (Int ⊕ (Str ⊕ (List Str))))))) => w_or1 (t_kd (c := fun (b_ : ((Unit × (Unit × Unit)) × Bool)) => (!b_.2)) (t_not (t_kd (c := fun (b_ : ((Unit × (Unit × Unit)) × Bool)) => b_.2) (t_val (x_kd (E := fun (b_ : ((Unit × (Unit × Unit)) × Bool)) => pBl b_.2) (x_lockG (d := (O_History mg) b365.2.2.1) 0 0 feBl (x_lockG (d := (oL (pSm pInt (pSm pStr (I_Unlike mg)))) b365.2.2.2.1) 0 1 feBl (x_lockG (d := (oL (pSm pInt (pSm pStr (I_Unlike mg)))) b365.2.2.2.2) 0 2 feBl (x_FFF_f (kk := 3) (E1 := (I_History mg)) (E2 := (pL (pSm pInt (pSm pStr (I_Unlike mg))))) (E3 := (pL (pSm pInt (pSm pStr (I_Unlike mg))))) k_l_looks (hr.mono (by decide)) g_l_looks F_l_looks.kp b_l_looks (x_var (p := (I_History mg) b365.2.2.1) 0) (fun _ => x_var (p := (pL (pSm pInt (pSm pStr (I_Unlike mg)))) b365.2.2.2.1) 1) (fun _ _ => x_var (p := (pL (pSm pInt (pSm pStr (I_Unlike mg)))) b365.2.2.2.2) 2))))))))))) (fun _ => rfl) (fun _ _ => rfl)))) (fun (b368 : (((Unit × (Unit × (Unit × Unit))) × (Bool × ((List (Int ⊕ (Str ⊕ (List Str)))) × (List (Int ⊕ (Str ⊕ (List Str))))) × (List (Int ⊕ (Str ⊕ (List Str)))) × (List (Int ⊕ (Str ⊕ (List Str)))))) × (Bool × Unit))) => s_T (T := some (Tm.rt (false, b368.1.2.2.1, b368.1.2.2.2.1, b368.1.2.2.2.2))) (s_ret (P := (fun (r : Bool × ((List (Int ⊕ (Str ⊕ (List Str)))) × (List (Int ⊕ (Str ⊕ (List Str))))) × (List (Int ⊕ (Str ⊕ (List Str)))) × (List (Int ⊕ (Str ⊕ (List Str))))) => [⟨v1, (O_History mg) r.2.1, some 0⟩, ⟨v2, (oL (pSm pInt (pSm pStr (I_Unlike mg)))) r.2.2.1, some 1⟩, ⟨v3, (oL (pSm pInt (pSm pStr (I_Unlike mg)))) r.2.2.2, some 2⟩])) (Rp := (fun (r : Bool × ((List (Int ⊕ (Str ⊕ (List Str)))) × (List (Int ⊕ (Str ⊕ (List Str))))) × (List (Int ⊕ (Str ⊕ (List Str)))) × (List (Int ⊕ (Str ⊕ (List Str))))) => pBl r.1)) (ι := Tm.rt) (rv := fun (b : Unit) => (false, b368.1.2.2.1, b368.1.2.2.2.1, b368.1.2.2.2.2)) (fun _ _ _ h => by exact h) x_bl (fun _ => List.Sublist.refl _))) fun (b368 : (((Unit × (Unit × (Unit × Unit))) × (Bool × ((List (Int ⊕ (Str ⊕ (List Str)))) × (List (Int ⊕ (Str ⊕ (List Str))))) × (List (Int ⊕ (Str ⊕ (List Str)))) × (List (Int ⊕ (Str ⊕ (List Str)))))) × (Bool × Unit))) => s_endB (b368.1.2.2.1, b368.1.2.2.2.1, b368.1.2.2.2.2) (by exact ⟨rfl, rfl, rfl, trivial⟩) (List.Sublist.refl _))) (fun b327 s330 => s_T (T := grd (rg (((s330.2.2).length : Int) + (1 : Int)) = true) ((forL (rngL 0 (((s330.2.2).length : Int) + (1 : Int)).toNat) ((s330.1, s330.2.1, s330.2.2) : ((List (Int ⊕ (Str ⊕ (List Str)))) × (List (Int ⊕ (Str ⊕ (List Str))))) × (List (Int ⊕ (Str ⊕ (List Str)))) × (List (Int ⊕ (Str ⊕ (List Str))))) fun x333 s332 => (M_l_redo (s332.1) (s332.2.1) (s332.2.2)).bind fun r357 => ((if (!(r357.1)) = true then some (true, ()) else (M_l_looks (r357.2.1) (r357.2.2.1) (r357.2.2.2)).bind fun r360 => some ((!r360), ()))).bind fun c361 => if c361.1 = true then inB (some (Tm.rt (false, r357.2.1, r357.2.2.1, r357.2.2.2))) else some (Bo.nx (r357.2.1, r357.2.2.1, r357.2.2.2))).bind (boK (fun s334 => grd (dv (2 : Int) = true) ((forL ([(-(1 : Int)), ((s334.2.1).length : Int), (((s334.2.1).length : Int) - (1 : Int)), (((s334.2.1).length : Int) / (2 : Int)), (0 : Int)]) ((s334.1, s334.2.1, s334.2.2) : ((List (Int ⊕ (Str ⊕ (List Str)))) × (List (Int ⊕ (Str ⊕ (List Str))))) × (List (Int ⊕ (Str ⊕ (List Str)))) × (List (Int ⊕ (Str ⊕ (List Str))))) fun x337 s336 => (M_l_back (s336.1) (s336.2.1) (s336.2.2) x337).bind fun r351 => ((if (!(r351.1)) = true then some (true, ()) else (M_l_looks (r351.2.1) (r351.2.2.1) (r351.2.2.2)).bind fun r354 => some ((!r354), ()))).bind fun c355 => if c355.1 = true then inB (some (Tm.rt (false, r351.2.1, r351.2.2.1, r351.2.2.2))) else some (Bo.nx (r351.2.1, r351.2.2.1, r351.2.2.2))).bind (boK (fun s338 => (atI (s338.2.1) (-(1 : Int))).bind fun x339 => (M_l_push (s338.1) (s338.2.1) (s338.2.2) x339).bind fun r340 => ((if (!(r340.1)) = true then some (true, ()) else (M_l_looks (r340.2.1) (r340.2.2.1) (r340.2.2.2)).bind fun r343 => some ((!r343), ()))).bind fun c344 => if c344.1 = true then some (false, r340.2.1, r340.2.2.1, r340.2.2.2) else (M_l_redo (r340.2.1) (r340.2.2.1) (r340.2.2.2)).bind fun r346 => ((if r346.1 = true then (M_l_looks (r346.2.1) (r346.2.2.1) (r346.2.2.2)).bind fun r349 => some (r349, ()) else some (false, ()))).bind fun c350 => some (c350.1, r346.2.1, r346.2.2.1, r346.2.2.2)) id))) id))) (s_for PassesOwn.never (fun (b_ : (Unit × Unit)) (s_ : ((List (Int ⊕ (Str ⊕ (List Str)))) × (List (Int ⊕ (Str ⊕ (List Str))))) × (List (Int ⊕ (Str ⊕ (List Str)))) × (List (Int ⊕ (Str ⊕ (List Str))))) => ([some (pV v1), some (pV v2), some (pV v3), none, none], [⟨v1, (O_History mg) s_.1, some 0⟩, ⟨v2, (oL (pSm pInt (pSm pStr (I_Unlike mg)))) s_.2.1, some 1⟩, ⟨v3, (oL (pSm pInt (pSm pStr (I_Unlike mg)))) s_.2.2, some 2⟩])) (fun (b_ : (Unit × Unit)) => (s330.1, s330.2.1, s330.2.2)) (ι := id) (R := (RF ⟨H, Gs⟩ (fun (r : Bool × ((List (Int ⊕ (Str ⊕ (List Str)))) × (List (Int ⊕ (Str ⊕ (List Str))))) × (List (Int ⊕ (Str ⊕ (List Str)))) × (List (Int ⊕ (Str ⊕ (List Str))))) => [⟨v1, (O_History mg) r.2.1, some 0⟩, ⟨v2, (oL (pSm pInt (pSm pStr (I_Unlike mg)))) r.2.2.1, some 1⟩, ⟨v3, (oL (pSm pInt (pSm pStr (I_Unlike mg)))) r.2.2.2, some 2⟩]) (fun (r : Bool × ((List (Int ⊕ (Str ⊕ (List Str)))) × (List (Int ⊕ (Str ⊕ (List Str))))) × (List (Int ⊕ (Str ⊕ (List Str)))) × (List (Int ⊕ (Str ⊕ (List Str))))) => pBl r.1))) (i_rng1 m_range (x_kd (E := fun (b_ : (Unit × Unit)) => pInt (((s330.2.2).length : Int) + (1 : Int))) (x_add (x_kd (E := fun (b_ : Unit) => pInt ((s330.2.2).length : Int)) (x_lenL (Ee := (pSm pInt (pSm pStr (I_Unlike mg)))) m_len (x_var (p := pV v3) 2) (fun _ => rdO 2))) (fun _ => x_int (i := 1))))) (pg_name (i := 3) sc_l_down_and_up.nd rfl (by first | exact .inl rfl | exact .inr rfl)) (tg_name 3) (fun _ => (by exact ⟨rfl, rfl, rfl, trivial⟩)) (fun _ => List.Sublist.refl _) (fun b331 x333 s332 => s_T (T := (M_l_redo (s332.1) (s332.2.1) (s332.2.2)).bind fun r357 => ((if (!(r357.1)) = true then some (true, ()) else (M_l_looks (r357.2.1) (r357.2.2.1) (r357.2.2.2)).bind fun r360 => some ((!r360), ()))).bind fun c361 => if c361.1 = true then inB (some (Tm.rt (false, r357.2.1, r357.2.2.1, r357.2.2.2))) else some (Bo.nx (r357.2.1, r357.2.2.1, r357.2.2.2))) (s_ifB ins_T (t_kd (c := fun (b_ : (((Unit × (Unit × (Unit × Unit))) × (Bool × ((List (Int ⊕ (Str ⊕ (List Str)))) × (List (Int ⊕ (Str ⊕ (List Str))))) × (List (Int ⊕ (Str ⊕ (List Str)))) × (List (Int ⊕ (Str ⊕ (List Str)))))) × (Bool × Unit))) => b_.2.1) (PW.pt (w_orM (ΔS := fun (b_ : ((Unit × (Unit × (Unit × Unit))) × (Bool × ((List (Int ⊕ (Str ⊕ (List Str)))) × (List (Int ⊕ (Str ⊕ (List Str))))) × (List (Int ⊕ (Str ⊕ (List Str)))) × (List (Int ⊕ (Str ⊕ (List Str))))))) (s_ : Unit) => [⟨v1, (O_History mg) b_.2.2.1, some 0⟩, ⟨v2, (oL (pSm pInt (pSm pStr (I_Unlike mg)))) b_.2.2.2.1, some 1⟩, ⟨v3, (oL (pSm pInt (pSm pStr (I_Unlike mg)))) b_.2.2.2.2, some 2⟩]) (s1 := fun (b_ : ((Unit × (Unit × (Unit × Unit))) × (Bool × ((List (Int ⊕ (Str ⊕ (List Str)))) × (List (Int ⊕ (Str ⊕ (List Str))))) × (List (Int ⊕ (Str ⊕ (List Str)))) × (List (Int ⊕ (Str ⊕ (List Str))))))) => ()) (s2 := fun (b_ : ((Unit × (Unit × (Unit × Unit))) × (Bool × ((List (Int ⊕ (Str ⊕ (List Str)))) × (List (Int ⊕ (Str ⊕ (List Str))))) × (List (Int ⊕ (Str ⊕ (List Str)))) × (List (Int ⊕ (Str ⊕ (List Str))))))) (c_ : ((Unit × (Unit × Unit)) × Bool)) => ()) (t_kd (c := fun (b_ : ((Unit × (Unit × (Unit × Unit))) × (Bool × ((List (Int ⊕ (Str ⊕ (List Str)))) × (List (Int ⊕ (Str ⊕ (List Str))))) × (List (Int ⊕ (Str ⊕ (List Str)))) × (List (Int ⊕ (Str ⊕ (List Str))))))) => (!(b_.2.1))) (t_not (t_kd (c := fun (b_ : ((Unit × (Unit × (Unit × Unit))) × (Bool × ((List (Int ⊕ (Str ⊕ (List Str)))) × (List (Int ⊕ (Str ⊕ (List Str))))) × (List (Int ⊕ (Str ⊕ (List Str)))) × (List (Int ⊕ (Str ⊕ (List Str))))))) => b_.2.1) (t_val (x_kd (E := fun (b_ : ((Unit × (Unit × (Unit × Unit))) × (Bool × ((List (Int ⊕ (Str ⊕ (List Str)))) × (List (Int ⊕ (Str ⊕ (List Str))))) × (List (Int ⊕ (Str ⊕ (List Str)))) × (List (Int ⊕ (Str ⊕ (List Str))))))) => pBl b_.2.1) (x_N (kk := 3) (xs := fun (b : (Unit × (Unit × (Unit × Unit)))) => ((v1, s332.1), (v2, s332.2.1), (v3, s332.2.2))) [some 0, some 1, some 2] _ k_l_redo (hr.mono (by decide)) g_l_redo F_l_redo.kp b_l_redo (a_cons (x_var (p := pV v1) 0) (fun _ => a_cons (x_var (p := pV v2) 1) (fun _ => a_cons (x_var (p := pV v3) 2) (fun _ => a_nil)))) (fun _ _ _ ok => (((ok.out (j := 2) rfl).out (j := 2) rfl).out (j := 2) rfl)) (fun _ _ _ _ ok => (((ok.back (j := 2) rfl).back (j := 2) rfl).back (j := 2) rfl)) (hn := fun _ _ => ⟨rfl, rfl, rfl, trivial⟩))))))) (fun (b359 : ((Unit × (Unit × (Unit × Unit))) × (Bool × ((List (Int ⊕ (Str ⊕ (List Str)))) × (List (Int ⊕ (Str ⊕ (List Str))))) × (List (Int ⊕ (Str ⊕ (List Str)))) × (List (Int ⊕ (Str ⊕ (List Str))))))) => w_or1 (t_kd (c := fun (b_ : ((Unit × (Unit × Unit)) × Bool)) => (!b_.2)) (t_not (t_kd (c := fun (b_ : ((Unit × (Unit × Unit)) × Bool)) => b_.2) (t_val (x_kd (E := fun (b_ : ((Unit × (Unit × Unit)) × Bool)) => pBl b_.2) (x_lockG (d := (O_History mg) b359.2.2.1) 0 0 feBl (x_lockG (d := (oL (pSm pInt (pSm pStr (I_Unlike mg)))) b359.2.2.2.1) 0 1 feBl (x_lockG (d := (oL (pSm pInt (pSm pStr (I_Unlike mg)))) b359.2.2.2.2) 0 2 feBl (x_FFF_f (kk := 3) (E1 := (I_History mg)) (E2 := (pL (pSm pInt (pSm pStr (I_Unlike mg))))) (E3 := (pL (pSm pInt (pSm pStr (I_Unlike mg))))) k_l_looks (hr.mono (by decide)) g_l_looks F_l_looks.kp b_l_looks (x_var (p := (I_History mg) b359.2.2.1) 0) (fun _ => x_var (p := (pL (pSm pInt (pSm pStr (I_Unlike mg)))) b359.2.2.2.1) 1) (fun _ _ => x_var (p := (pL (pSm pInt (pSm pStr (I_Unlike mg)))) b359.2.2.2.2) 2))))))))))) (fun _ => rfl) (fun _ _ => rfl)))) (fun (b362 : (((Unit × (Unit × (Unit × Unit))) × (Bool × ((List (Int ⊕ (Str ⊕ (List Str)))) × (List (Int ⊕ (Str ⊕ (List Str))))) × (List (Int ⊕ (Str ⊕ (List Str)))) × (List (Int ⊕ (Str ⊕ (List Str)))))) × (Bool × Unit))) => s_T (T := some (Tm.rt (false, b362.1.2.2.1, b362.1.2.2.2.1, b362.1.2.2.2.2))) (s_ret (P := (fun (r : Bool × ((List (Int ⊕ (Str ⊕ (List Str)))) × (List (Int ⊕ (Str ⊕ (List Str))))) × (List (Int ⊕ (Str ⊕ (List Str)))) × (List (Int ⊕ (Str ⊕ (List Str))))) => [⟨v1, (O_History mg) r.2.1, some 0⟩, ⟨v2, (oL (pSm pInt (pSm pStr (I_Unlike mg)))) r.2.2.1, some 1⟩, ⟨v3, (oL (pSm pInt (pSm pStr (I_Unlike mg)))) r.2.2.2, some 2⟩])) (Rp := (fun (r : Bool × ((List (Int ⊕ (Str ⊕ (List Str)))) × (List (Int ⊕ (Str ⊕ (List Str))))) × (List (Int ⊕ (Str ⊕ (List Str)))) × (List (Int ⊕ (Str ⊕ (List Str))))) => pBl r.1)) (ι := Tm.rt) (rv := fun (b : Unit) => (false, b362.1.2.2.1, b362.1.2.2.2.1, b362.1.2.2.2.2)) (fun _ _ _ h => by exact h) x_bl (fun _ => List.Sublist.refl _))) fun (b362 : (((Unit × (Unit × (Unit × Unit))) × (Bool × ((List (Int ⊕ (Str ⊕ (List Str)))) × (List (Int ⊕ (Str ⊕ (List Str))))) × (List (Int ⊕ (Str ⊕ (List Str)))) × (List (Int ⊕ (Str ⊕ (List Str)))))) × (Bool × Unit))) => s_endB (b362.1.2.2.1, b362.1.2.2.2.1, b362.1.2.2.2.2) (by exact ⟨rfl, rfl, rfl, trivial⟩) (List.Sublist.refl _))) (fun b331 s334 => s_T (T := grd (dv (2 : Int) = true) ((forL ([(-(1 : Int)), ((s334.2.1).length : Int), (((s334.2.1).length : Int) - (1 : Int)), (((s334.2.1).length : Int) / (2 : Int)), (0 : Int)]) ((s334.1, s334.2.1, s334.2.2) : ((List (Int ⊕ (Str ⊕ (List Str)))) × (List (Int ⊕ (Str ⊕ (List Str))))) × (List (Int ⊕ (Str ⊕ (List Str)))) × (List (Int ⊕ (Str ⊕ (List Str))))) fun x337 s336 => (M_l_back (s336.1) (s336.2.1) (s336.2.2) x337).bind fun r351 => ((if (!(r351.1)) = true then some (true, ()) else (M_l_looks (r351.2.1) (r351.2.2.1) (r351.2.2.2)).bind fun r354 => some ((!r354), ()))).bind fun c355 => if c355.1 = true then inB (some (Tm.rt (false, r351.2.1, r351.2.2.1, r351.2.2.2))) else some (Bo.nx (r351.2.1, r351.2.2.1, r351.2.2.2))).bind (boK (fun s338 => (atI (s338.2.1) (-(1 : Int))).bind fun x339 => (M_l_push (s338.1) (s338.2.1) (s338.2.2) x339).bind fun r340 => ((if (!(r340.1)) = true then some (true, ()) else (M_l_looks (r340.2.1) (r340.2.2.1) (r340.2.2.2)).bind fun r343 => some ((!r343), ()))).bind fun c344 => if c344.1 = true then some (false, r340.2.1, r340.2.2.1, r340.2.2.2) else (M_l_redo (r340.2.1) (r340.2.2.1) (r340.2.2.2)).bind fun r346 => ((if r346.1 = true then (M_l_looks (r346.2.1) (r346.2.2.1) (r346.2.2.2)).bind fun r349 => some (r349, ()) else some (false, ()))).bind fun c350 => some (c350.1, r346.2.1, r346.2.2.1, r346.2.2.2)) id))) (s_for PassesOwn.never (fun (b_ : (Unit × (Unit × ((Unit × Unit) × ((Unit × Unit) × (Unit × Unit)))))) (s_ : ((List (Int ⊕ (Str ⊕ (List Str)))) × (List (Int ⊕ (Str ⊕ (List Str))))) × (List (Int ⊕ (Str ⊕ (List Str)))) × (List (Int ⊕ (Str ⊕ (List Str))))) => ([some (pV v1), some (pV v2), some (pV v3), none, none], [⟨v1, (O_History mg) s_.1, some 0⟩, ⟨v2, (oL (pSm pInt (pSm pStr (I_Unlike mg)))) s_.2.1, some 1⟩, ⟨v3, (oL (pSm pInt (pSm pStr (I_Unlike mg)))) s_.2.2, some 2⟩])) (fun (b_ : (Unit × (Unit × ((Unit × Unit) × ((Unit × Unit) × (Unit × Unit)))))) => (s334.1, s334.2.1, s334.2.2)) (ι := id) (R := (RF ⟨H, Gs⟩ (fun (r : Bool × ((List (Int ⊕ (Str ⊕ (List Str)))) × (List (Int ⊕ (Str ⊕ (List Str))))) × (List (Int ⊕ (Str ⊕ (List Str)))) × (List (Int ⊕ (Str ⊕ (List Str))))) => [⟨v1, (O_History mg) r.2.1, some 0⟩, ⟨v2, (oL (pSm pInt (pSm pStr (I_Unlike mg)))) r.2.2.1, some 1⟩, ⟨v3, (oL (pSm pInt (pSm pStr (I_Unlike mg)))) r.2.2.2, some 2⟩]) (fun (r : Bool × ((List (Int ⊕ (Str ⊕ (List Str)))) × (List (Int ⊕ (Str ⊕ (List Str))))) × (List (Int ⊕ (Str ⊕ (List Str)))) × (List (Int ⊕ (Str ⊕ (List Str))))) => pBl r.1))) (i_list (x_kd (E := fun (b_ : (Unit × (Unit × ((Unit × Unit) × ((Unit × Unit) × (Unit × Unit)))))) => (pL pInt) ([(-(1 : Int)), ((s334.2.1).length : Int), (((s334.2.1).length : Int) - (1 : Int)), (((s334.2.1).length : Int) / (2 : Int)), (0 : Int)])) (x_frz (o_kd (E := fun (b_ : (Unit × (Unit × ((Unit × Unit) × ((Unit × Unit) × (Unit × Unit)))))) => (oL pInt) ([(-(1 : Int)), ((s334.2.1).length : Int), (((s334.2.1).length : Int) - (1 : Int)), (((s334.2.1).length : Int) / (2 : Int)), (0 : Int)])) (x_disp pInt (fun _ => [_, _, _, _, _]) (a_cons (x_kd (E := fun (b_ : Unit) => pInt (-(1 : Int))) (x_neg (x_int (i := 1)))) (fun _ => a_cons (x_kd (E := fun (b_ : Unit) => pInt ((s334.2.1).length : Int)) (x_lenL (Ee := (pSm pInt (pSm pStr (I_Unlike mg)))) m_len (x_var (p := pV v2) 1) (fun _ => rdO 1))) (fun _ => a_cons (x_kd (E := fun (b_ : (Unit × Unit)) => pInt (((s334.2.1).length : Int) - (1 : Int))) (x_sub (x_kd (E := fun (b_ : Unit) => pInt ((s334.2.1).length : Int)) (x_lenL (Ee := (pSm pInt (pSm pStr (I_Unlike mg)))) m_len (x_var (p := pV v2) 1) (fun _ => rdO 1))) (fun _ => x_int (i := 1)))) (fun _ => a_cons (x_kd (E := fun (b_ : (Unit × Unit)) => pInt (((s334.2.1).length : Int) / (2 : Int))) (x_fdiv (x_kd (E := fun (b_ : Unit) => pInt ((s334.2.1).length : Int)) (x_lenL (Ee := (pSm pInt (pSm pStr (I_Unlike mg)))) m_len (x_var (p := pV v2) 1) (fun _ => rdO 1))) (fun _ => x_int (i := 2)))) (fun _ => a_cons (x_int (i := 0)) (fun _ => a_nil)))))) (fun _ => rfl) (fun _ => by simp)))))) (pg_name (i := 4) sc_l_down_and_up.nd rfl (by first | exact .inl rfl | exact .inr rfl)) (tg_name 4) (fun _ => (by exact ⟨rfl, rfl, rfl, trivial⟩)) (fun _ => List.Sublist.refl _) (fun b335 x337 s336 => s_T (T := (M_l_back (s336.1) (s336.2.1) (s336.2.2) x337).bind fun r351 => ((if (!(r351.1)) = true then some (true, ()) else (M_l_looks (r351.2.1) (r351.2.2.1) (r351.2.2.2)).bind fun r354 => some ((!r354), ()))).bind fun c355 => if c355.1 = true then inB (some (Tm.rt (false, r351.2.1, r351.2.2.1, r351.2.2.2))) else some (Bo.nx (r351.2.1, r351.2.2.1, r351.2.2.2))) (s_ifB ins_T (t_kd (c := fun (b_ : (((Unit × (Unit × (Unit × (Unit × Unit)))) × (Bool × ((List (Int ⊕ (Str ⊕ (List Str)))) × (List (Int ⊕ (Str ⊕ (List Str))))) × (List (Int ⊕ (Str ⊕ (List Str)))) × (List (Int ⊕ (Str ⊕ (List Str)))))) × (Bool × Unit))) => b_.2.1) (PW.pt (w_orM (ΔS := fun (b_ : ((Unit × (Unit × (Unit × (Unit × Unit)))) × (Bool × ((List (Int ⊕ (Str ⊕ (List Str)))) × (List (Int ⊕ (Str ⊕ (List Str))))) × (List (Int ⊕ (Str ⊕ (List Str)))) × (List (Int ⊕ (Str ⊕ (List Str))))))) (s_ : Unit) => [⟨v1, (O_History mg) b_.2.2.1, some 0⟩, ⟨v2, (oL (pSm pInt (pSm pStr (I_Unlike mg)))) b_.2.2.2.1, some 1⟩, ⟨v3, (oL (pSm pInt (pSm pStr (I_Unlike mg)))) b_.2.2.2.2, some 2⟩]) (s1 := fun (b_ : ((Unit × (Unit × (Unit × (Unit × Unit)))) × (Bool × ((List (Int ⊕ (Str ⊕ (List Str)))) × (List (Int ⊕ (Str ⊕ (List Str))))) × (List (Int ⊕ (Str ⊕ (List Str)))) × (List (Int ⊕ (Str ⊕ (List Str))))))) => ()) (s2 := fun (b_ : ((Unit × (Unit × (Unit × (Unit × Unit)))) × (Bool × ((List (Int ⊕ (Str ⊕ (List Str)))) × (List (Int ⊕ (Str ⊕ (List Str))))) × (List (Int ⊕ (Str ⊕ (List Str)))) × (List (Int ⊕ (Str ⊕ (List Str))))))) (c_ : ((Unit × (Unit × Unit)) × Bool)) => ()) (t_kd (c := fun (b_ : ((Unit × (Unit × (Unit × (Unit × Unit)))) × (Bool × ((List (Int ⊕ (Str ⊕ (List Str)))) × (List (Int ⊕ (Str ⊕ (List Str))))) × (List (Int ⊕ (Str ⊕ (List Str)))) × (List (Int ⊕ (Str ⊕ (List Str))))))) => (!(b_.2.1))) (t_not (t_kd (c := fun (b_ : ((Unit × (Unit × (Unit × (Unit × Unit)))) × (Bool × ((List (Int ⊕ (Str ⊕ (List Str)))) × (List (Int ⊕ (Str ⊕ (List Str))))) × (List (Int ⊕ (Str ⊕ (List Str)))) × (List (Int ⊕ (Str ⊕ (List Str))))))) => b_.2.1) (t_val (x_kd (E := fun (b_ : ((Unit × (Unit × (Unit × (Unit × Unit)))) × (Bool × ((List (Int ⊕ (Str ⊕ (List Str)))) × (List (Int ⊕ (Str ⊕ (List Str))))) × (List (Int ⊕ (Str ⊕ (List Str)))) × (List (Int ⊕ (Str ⊕ (List Str))))))) => pBl b_.2.1) (x_N (kk := 3) (xs := fun (b : (Unit × (Unit × (Unit × (Unit × Unit))))) => ((v1, s336.1), (v2, s336.2.1), (v3, s336.2.2), x337)) [some 0, some 1, some 2] _ k_l_back (hr.mono (by decide)) g_l_back F_l_back.kp b_l_back (a_cons (x_var (p := pV v1) 0) (fun _ => a_cons (x_var (p := pV v2) 1) (fun _ => a_cons (x_var (p := pV v3) 2) (fun _ => a_cons (x_var (p := pInt x337) 4) (fun _ => a_nil))))) (fun _ _ _ ok => (((ok.out (j := 2) rfl).out (j := 2) rfl).out (j := 2) rfl)) (fun _ _ _ _ ok => (((ok.back (j := 2) rfl).back (j := 2) rfl).back (j := 2) rfl)) (hn := fun _ _ => ⟨rfl, rfl, rfl, trivial⟩))))))) (fun (b353 : ((Unit × (Unit × (Unit × (Unit × Unit)))) × (Bool × ((List (Int ⊕ (Str ⊕ (List Str)))) × (List (Int ⊕ (Str ⊕ (List Str))))) × (List (Int ⊕ (Str ⊕ (List Str)))) × (List (Int ⊕ (Str ⊕ (List Str))))))) => w_or1 (t_kd (c := fun (b_ : ((Unit × (Unit × Unit)) × Bool)) => (!b_.2)) (t_not (t_kd (c := fun (b_ : ((Unit × (Unit × Unit)) × Bool)) => b_.2) (t_val (x_kd (E := fun (b_ : ((Unit × (Unit × Unit)) × Bool)) => pBl b_.2) (x_lockG (d := (O_History mg) b353.2.2.1) 0 0 feBl (x_lockG (d := (oL (pSm pInt (pSm pStr (I_Unlike mg)))) b353.2.2.2.1) 0 1 feBl (x_lockG (d := (oL (pSm pInt (pSm pStr (I_Unlike mg)))) b353.2.2.2.2) 0 2 feBl (x_FFF_f (kk := 3) (E1 := (I_History mg)) (E2 := (pL (pSm pInt (pSm pStr (I_Unlike mg))))) (E3 := (pL (pSm pInt (pSm pStr (I_Unlike mg))))) k_l_looks (hr.mono (by decide)) g_l_looks F_l_looks.kp b_l_looks (x_var (p := (I_History mg) b353.2.2.1) 0) (fun _ => x_var (p := (pL (pSm pInt (pSm pStr (I_Unlike mg)))) b353.2.2.2.1) 1) (fun _ _ => x_var (p := (pL (pSm pInt (pSm pStr (I_Unlike mg)))) b353.2.2.2.2) 2))))))))))) (fun _ => rfl) (fun _ _ => rfl)))) (fun (b356 : (((Unit × (Unit × (Unit × (Unit × Unit)))) × (Bool × ((List (Int ⊕ (Str ⊕ (List Str)))) × (List (Int ⊕ (Str ⊕ (List Str))))) × (List (Int ⊕ (Str ⊕ (List Str)))) × (List (Int ⊕ (Str ⊕ (List Str)))))) × (Bool × Unit))) => s_T (T := some (Tm.rt (false, b356.1.2.2.1, b356.1.2.2.2.1, b356.1.2.2.2.2))) (s_ret (P := (fun (r : Bool × ((List (Int ⊕ (Str ⊕ (List Str)))) × (List (Int ⊕ (Str ⊕ (List Str))))) × (List (Int ⊕ (Str ⊕ (List Str)))) × (List (Int ⊕ (Str ⊕ (List Str))))) => [⟨v1, (O_History mg) r.2.1, some 0⟩, ⟨v2, (oL (pSm pInt (pSm pStr (I_Unlike mg)))) r.2.2.1, some 1⟩, ⟨v3, (oL (pSm pInt (pSm pStr (I_Unlike mg)))) r.2.2.2, some 2⟩])) (Rp := (fun (r : Bool × ((List (Int ⊕ (Str ⊕ (List Str)))) × (List (Int ⊕ (Str ⊕ (List Str))))) × (List (Int ⊕ (Str ⊕ (List Str)))) × (List (Int ⊕ (Str ⊕ (List Str))))) => pBl r.1)) (ι := Tm.rt) (rv := fun (b : Unit) => (false, b356.1.2.2.1, b356.1.2.2.2.1, b356.1.2.2.2.2)) (fun _ _ _ h => by exact h) x_bl (fun _ => List.Sublist.refl _))) fun (b356 : (((Unit × (Unit × (Unit × (Unit × Unit)))) × (Bool × ((List (Int ⊕ (Str ⊕ (List Str)))) × (List (Int ⊕ (Str ⊕ (List Str))))) × (List (Int ⊕ (Str ⊕ (List Str)))) × (List (Int ⊕ (Str ⊕ (List Str)))))) × (Bool × Unit))) => s_endB (b356.1.2.2.1, b356.1.2.2.2.1, b356.1.2.2.2.2) (by exact ⟨rfl, rfl, rfl, trivial⟩) (List.Sublist.refl _))) (fun b335 s338 => s_T (T := (atI (s338.2.1) (-(1 : Int))).bind fun x339 => (M_l_push (s338.1) (s338.2.1) (s338.2.2) x339).bind fun r340 => ((if (!(r340.1)) = true then some (true, ()) else (M_l_looks (r340.2.1) (r340.2.2.1) (r340.2.2.2)).bind fun r343 => some ((!r343), ()))).bind fun c344 => if c344.1 = true then some (false, r340.2.1, r340.2.2.1, r340.2.2.2) else (M_l_redo (r340.2.1) (r340.2.2.1) (r340.2.2.2)).bind fun r346 => ((if r346.1 = true then (M_l_looks (r346.2.1) (r346.2.2.1) (r346.2.2.2)).bind fun r349 => some (r349, ()) else some (false, ()))).bind fun c350 => some (c350.1, r346.2.1, r346.2.2.1, r346.2.2.2)) (s_ifT (ins_F _) (t_kd (c := fun (b_ : (((Unit × (Unit × (Unit × (((Unit × Unit) × (Int ⊕ (Str ⊕ (List Str)))) × Unit)))) × (Bool × ((List (Int ⊕ (Str ⊕ (List Str)))) × (List (Int ⊕ (Str ⊕ (List Str))))) × (List (Int ⊕ (Str ⊕ (List Str)))) × (List (Int ⊕ (Str ⊕ (List Str)))))) × (Bool × Unit))) => b_.2.1) (PW.pt (w_orM (ΔS := fun (b_ : ((Unit × (Unit × (Unit × (((Unit × Unit) × (Int ⊕ (Str ⊕ (List Str)))) × Unit)))) × (Bool × ((List (Int ⊕ (Str ⊕ (List Str)))) × (List (Int ⊕ (Str ⊕ (List Str))))) × (List (Int ⊕ (Str ⊕ (List Str)))) × (List (Int ⊕ (Str ⊕ (List Str))))))) (s_ : Unit) => [⟨v1, (O_History mg) b_.2.2.1, some 0⟩, ⟨v2, (oL (pSm pInt (pSm pStr (I_Unlike mg)))) b_.2.2.2.1, some 1⟩, ⟨v3, (oL (pSm pInt (pSm pStr (I_Unlike mg)))) b_.2.2.2.2, some 2⟩]) (s1 := fun (b_ : ((Unit × (Unit × (Unit × (((Unit × Unit) × (Int ⊕ (Str ⊕ (List Str)))) × Unit)))) × (Bool × ((List (Int ⊕ (Str ⊕ (List Str)))) × (List (Int ⊕ (Str ⊕ (List Str))))) × (List (Int ⊕ (Str ⊕ (List Str)))) × (List (Int ⊕ (Str ⊕ (List Str))))))) => ()) (s2 := fun (b_ : ((Unit × (Unit × (Unit × (((Unit × Unit) × (Int ⊕ (Str ⊕ (List Str)))) × Unit)))) × (Bool × ((List (Int ⊕ (Str ⊕ (List Str)))) × (List (Int ⊕ (Str ⊕ (List Str))))) × (List (Int ⊕ (Str ⊕ (List Str)))) × (List (Int ⊕ (Str ⊕ (List Str))))))) (c_ : ((Unit × (Unit × Unit)) × Bool)) => ()) (t_kd (c := fun (b_ : ((Unit × (Unit × (Unit × (((Unit × Unit) × (Int ⊕ (Str ⊕ (List Str)))) × Unit)))) × (Bool × ((List (Int ⊕ (Str ⊕ (List Str)))) × (List (Int ⊕ (Str ⊕ (List Str))))) × (List (Int ⊕ (Str ⊕ (List Str)))) × (List (Int ⊕ (Str ⊕ (List Str))))))) => (!(b_.2.1))) (t_not (t_kd (c := fun (b_ : ((Unit × (Unit × (Unit × (((Unit × Unit) × (Int ⊕ (Str ⊕ (List Str)))) × Unit)))) × (Bool × ((List (Int ⊕ (Str ⊕ (List Str)))) × (List (Int ⊕ (Str ⊕ (List Str))))) × (List (Int ⊕ (Str ⊕ (List Str)))) × (List (Int ⊕ (Str ⊕ (List Str))))))) => b_.2.1) (t_val (x_kd (E := fun (b_ : ((Unit × (Unit × (Unit × (((Unit × Unit) × (Int ⊕ (Str ⊕ (List Str)))) × Unit)))) × (Bool × ((List (Int ⊕ (Str ⊕ (List Str)))) × (List (Int ⊕ (Str ⊕ (List Str))))) × (List (Int ⊕ (Str ⊕ (List Str)))) × (List (Int ⊕ (Str ⊕ (List Str))))))) => pBl b_.2.1) (x_N (kk := 2) (xs := fun (b : (Unit × (Unit × (Unit × (((Unit × Unit) × (Int ⊕ (Str ⊕ (List Str)))) × Unit))))) => ((v1, s338.1), (v2, s338.2.1), (v3, s338.2.2), b.2.2.2.1.2)) [some 0, some 1, some 2] _ k_l_push (hr.mono (by decide)) g_l_push F_l_push.kp b_l_push (a_cons (x_var (p := pV v1) 0) (fun _ => a_cons (x_var (p := pV v2) 1) (fun _ => a_cons (x_var (p := pV v3) 2) (fun _ => a_cons (x_kd (E := fun (b_ : ((Unit × Unit) × (Int ⊕ (Str ⊕ (List Str))))) => (pSm pInt (pSm pStr (I_Unlike mg))) b_.2) (x_ixL (Ee := (pSm pInt (pSm pStr (I_Unlike mg)))) (x_var (p := pV v2) 1) (fun _ => x_kd (E := fun (b_ : Unit) => pInt (-(1 : Int))) (x_neg (x_int (i := 1)))) (fun _ _ => rdO 1))) (fun _ => a_nil))))) (fun _ _ _ ok => (((ok.out (j := 2) rfl).out (j := 2) rfl).out (j := 2) rfl)) (fun _ _ _ _ ok => (((ok.back (j := 2) rfl).back (j := 2) rfl).back (j := 2) rfl)) (hn := fun _ _ => ⟨rfl, rfl, rfl, trivial⟩))))))) (fun (b342 : ((Unit × (Unit × (Unit × (((Unit × Unit) × (Int ⊕ (Str ⊕ (List Str)))) × Unit)))) × (Bool × ((List (Int ⊕ (Str ⊕ (List Str)))) × (List (Int ⊕ (Str ⊕ (List Str))))) × (List (Int ⊕ (Str ⊕ (List Str)))) × (List (Int ⊕ (Str ⊕ (List Str))))))) => w_or1 (t_kd (c := fun (b_ : ((Unit × (Unit × Unit)) × Bool)) => (!b_.2)) (t_not (t_kd (c := fun (b_ : ((Unit × (Unit × Unit)) × Bool)) => b_.2) (t_val (x_kd (E := fun (b_ : ((Unit × (Unit × Unit)) × Bool)) => pBl b_.2) (x_lockG (d := (O_History mg) b342.2.2.1) 0 0 feBl (x_lockG (d := (oL (pSm pInt (pSm pStr (I_Unlike mg)))) b342.2.2.2.1) 0 1 feBl (x_lockG (d := (oL (pSm pInt (pSm pStr (I_Unlike mg)))) b342.2.2.2.2) 0 2 feBl (x_FFF_f (kk := 3) (E1 := (I_History mg)) (E2 := (pL (pSm pInt (pSm pStr (I_Unlike mg))))) (E3 := (pL (pSm pInt (pSm pStr (I_Unlike mg))))) k_l_looks (hr.mono (by decide)) g_l_looks F_l_looks.kp b_l_looks (x_var (p := (I_History mg) b342.2.2.1) 0) (fun _ => x_var (p := (pL (pSm pInt (pSm pStr (I_Unlike mg)))) b342.2.2.2.1) 1) (fun _ _ => x_var (p := (pL (pSm pInt (pSm pStr (I_Unlike mg)))) b342.2.2.2.2) 2))))))))))) (fun _ => rfl) (fun _ _ => rfl)))) (fun (b345 : (((Unit × (Unit × (Unit × (((Unit × Unit) × (Int ⊕ (Str ⊕ (List Str)))) × Unit)))) × (Bool × ((List (Int ⊕ (Str ⊕ (List Str)))) × (List (Int ⊕ (Str ⊕ (List Str))))) × (List (Int ⊕ (Str ⊕ (List Str)))) × (List (Int ⊕ (Str ⊕ (List Str)))))) × (Bool × Unit))) => s_T (T := some (false, b345.1.2.2.1, b345.1.2.2.2.1, b345.1.2.2.2.2)) (s_ret (P := (fun (r : Bool × ((List (Int ⊕ (Str ⊕ (List Str)))) × (List (Int ⊕ (Str ⊕ (List Str))))) × (List (Int ⊕ (Str ⊕ (List Str)))) × (List (Int ⊕ (Str ⊕ (List Str))))) => [⟨v1, (O_History mg) r.2.1, some 0⟩, ⟨v2, (oL (pSm pInt (pSm pStr (I_Unlike mg)))) r.2.2.1, some 1⟩, ⟨v3, (oL (pSm pInt (pSm pStr (I_Unlike mg)))) r.2.2.2, some 2⟩])) (Rp := (fun (r : Bool × ((List (Int ⊕ (Str ⊕ (List Str)))) × (List (Int ⊕ (Str ⊕ (List Str))))) × (List (Int ⊕ (Str ⊕ (List Str)))) × (List (Int ⊕ (Str ⊕ (List Str))))) => pBl r.1)) (ι := id) (rv := fun (b : Unit) => (false, b345.1.2.2.1, b345.1.2.2.2.1, b345.1.2.2.2.2)) (fun _ _ _ h => by exact h) x_bl (fun _ => List.Sublist.refl _))) fun (b345 : (((Unit × (Unit × (Unit × (((Unit × Unit) × (Int ⊕ (Str ⊕ (List Str)))) × Unit)))) × (Bool × ((List (Int ⊕ (Str ⊕ (List Str)))) × (List (Int ⊕ (Str ⊕ (List Str))))) × (List (Int ⊕ (Str ⊕ (List Str)))) × (List (Int ⊕ (Str ⊕ (List Str)))))) × (Bool × Unit))) => s_T (T := (M_l_redo (b345.1.2.2.1) (b345.1.2.2.2.1) (b345.1.2.2.2.2)).bind fun r346 => ((if r346.1 = true then (M_l_looks (r346.2.1) (r346.2.2.1) (r346.2.2.2)).bind fun r349 => some (r349, ()) else some (false, ()))).bind fun c350 => some (c350.1, r346.2.1, r346.2.2.1, r346.2.2.2)) (s_ret (P := (fun (r : Bool × ((List (Int ⊕ (Str ⊕ (List Str)))) × (List (Int ⊕ (Str ⊕ (List Str))))) × (List (Int ⊕ (Str ⊕ (List Str)))) × (List (Int ⊕ (Str ⊕ (List Str))))) => [⟨v1, (O_History mg) r.2.1, some 0⟩, ⟨v2, (oL (pSm pInt (pSm pStr (I_Unlike mg)))) r.2.2.1, some 1⟩, ⟨v3, (oL (pSm pInt (pSm pStr (I_Unlike mg)))) r.2.2.2, some 2⟩])) (Rp := (fun (r : Bool × ((List (Int ⊕ (Str ⊕ (List Str)))) × (List (Int ⊕ (Str ⊕ (List Str))))) × (List (Int ⊕ (Str ⊕ (List Str)))) × (List (Int ⊕ (Str ⊕ (List Str))))) => pBl r.1)) (ι := id) (rv := fun (b : (((Unit × (Unit × (Unit × Unit))) × (Bool × ((List (Int ⊕ (Str ⊕ (List Str)))) × (List (Int ⊕ (Str ⊕ (List Str))))) × (List (Int ⊕ (Str ⊕ (List Str)))) × (List (Int ⊕ (Str ⊕ (List Str)))))) × (Bool × Unit))) => (b.2.1, b.1.2.2.1, b.1.2.2.2.1, b.1.2.2.2.2)) (fun _ _ _ h => by exact h) (x_kd (x_kd (E := fun (b_ : (((Unit × (Unit × (Unit × Unit))) × (Bool × ((List (Int ⊕ (Str ⊕ (List Str)))) × (List (Int ⊕ (Str ⊕ (List Str))))) × (List (Int ⊕ (Str ⊕ (List Str)))) × (List (Int ⊕ (Str ⊕ (List Str)))))) × (Bool × Unit))) => pBl b_.2.1) (v_andM (ΔS := fun (b_ : ((Unit × (Unit × (Unit × Unit))) × (Bool × ((List (Int ⊕ (Str ⊕ (List Str)))) × (List (Int ⊕ (Str ⊕ (List Str))))) × (List (Int ⊕ (Str ⊕ (List Str)))) × (List (Int ⊕ (Str ⊕ (List Str))))))) (s_ : Unit) => [⟨v1, (O_History mg) b_.2.2.1, some 0⟩, ⟨v2, (oL (pSm pInt (pSm pStr (I_Unlike mg)))) b_.2.2.2.1, some 1⟩, ⟨v3, (oL (pSm pInt (pSm pStr (I_Unlike mg)))) b_.2.2.2.2, some 2⟩]) (s1 := fun (b_ : ((Unit × (Unit × (Unit × Unit))) × (Bool × ((List (Int ⊕ (Str ⊕ (List Str)))) × (List (Int ⊕ (Str ⊕ (List Str))))) × (List (Int ⊕ (Str ⊕ (List Str)))) × (List (Int ⊕ (Str ⊕ (List Str))))))) => ()) (s2 := fun (b_ : ((Unit × (Unit × (Unit × Unit))) × (Bool × ((List (Int ⊕ (Str ⊕ (List Str)))) × (List (Int ⊕ (Str ⊕ (List Str))))) × (List (Int ⊕ (Str ⊕ (List Str)))) × (List (Int ⊕ (Str ⊕ (List Str))))))) (c_ : ((Unit × (Unit × Unit)) × Bool)) => ()) (x_kd (E := fun (b_ : ((Unit × (Unit × (Unit × Unit))) × (Bool × ((List (Int ⊕ (Str ⊕ (List Str)))) × (List (Int ⊕ (Str ⊕ (List Str))))) × (List (Int ⊕ (Str ⊕ (List Str)))) × (List (Int ⊕ (Str ⊕ (List Str))))))) => pBl b_.2.1) (x_N (kk := 3) (xs := fun (b : (Unit × (Unit × (Unit × Unit)))) => ((v1, b345.1.2.2.1), (v2, b345.1.2.2.2.1), (v3, b345.1.2.2.2.2))) [some 0, some 1, some 2] _ k_l_redo (hr.mono (by decide)) g_l_redo F_l_redo.kp b_l_redo (a_cons (x_var (p := pV v1) 0) (fun _ => a_cons (x_var (p := pV v2) 1) (fun _ => a_cons (x_var (p := pV v3) 2) (fun _ => a_nil)))) (fun _ _ _ ok => (((ok.out (j := 2) rfl).out (j := 2) rfl).out (j := 2) rfl)) (fun _ _ _ _ ok => (((ok.back (j := 2) rfl).back (j := 2) rfl).back (j := 2) rfl)) (hn := fun _ _ => ⟨rfl, rfl, rfl, trivial⟩))) (fun (b348 : ((Unit × (Unit × (Unit × Unit))) × (Bool × ((List (Int ⊕ (Str ⊕ (List Str)))) × (List (Int ⊕ (Str ⊕ (List Str))))) × (List (Int ⊕ (Str ⊕ (List Str)))) × (List (Int ⊕ (Str ⊕ (List Str))))))) => v_one (x_kd (E := fun (b_ : ((Unit × (Unit × Unit)) × Bool)) => pBl b_.2) (x_lockG (d := (O_History mg) b348.2.2.1) 0 0 feBl (x_lockG (d := (oL (pSm pInt (pSm pStr (I_Unlike mg)))) b348.2.2.2.1) 0 1 feBl (x_lockG (d := (oL (pSm pInt (pSm pStr (I_Unlike mg)))) b348.2.2.2.2) 0 2 feBl (x_FFF_f (kk := 3) (E1 := (I_History mg)) (E2 := (pL (pSm pInt (pSm pStr (I_Unlike mg))))) (E3 := (pL (pSm pInt (pSm pStr (I_Unlike mg))))) k_l_looks (hr.mono (by decide)) g_l_looks F_l_looks.kp b_l_looks (x_var (p := (I_History mg) b348.2.2.1) 0) (fun _ => x_var (p := (pL (pSm pInt (pSm pStr (I_Unlike mg)))) b348.2.2.2.1) 1) (fun _ _ => x_var (p := (pL (pSm pInt (pSm pStr (I_Unlike mg)))) b348.2.2.2.2) 2))))))) (fun _ => rfl) (fun _ _ => rfl)))) (fun _ => List.Sublist.refl _)))) (fun _ _ _ h => by exact h))) (fun _ _ _ h => by exact h))) (fun _ _ _ h => by exact h))) (by unfold M_l_down_and_up; rfl)
end
end My
end
section
set_option maxHeartbeats 4000000
set_option synthInstance.maxSize 2000
namespace My
open PySem PySem.Spec PyProof.Rows L2 L3
section
variable {P : Program} {w : World} {K : PySem.W.Frag} {mg : Str → Option Value} {base : Heap}
theorem sc_l_long_holds : FnScope ["_law_history", "_law_k"] [] (defScope (top 46)) := ⟨rfl, rfl, rfl, by decide +kernel, rfl, by decide +kernel, by decide +kernel⟩
theorem ok_l_long_holds {f : Addr} {fd : FuncData} (C : Ev P K mg) (FD : FnP K "_law_long_holds" (top 46) f fd)   : FnOk P w K mg base CX0 3 f fd [] (Sp__f  M_l_long_holds pBl) := by
  obtain ⟨C_History, fI_History, fdI_History, gC_History, hC_History, hK_History, FI_History, n_History__done, n_History__undone⟩ := C.c_History
  have m_range := C.m_range
  have k_History___init__ := ok_History___init__ (P := P) (w := w) (base := base) C FI_History
  have b_History___init__ : Binds K fdI_History ["self", "start"] [] := FI_History.bindsN fun _ _ _ _ _ _ us hl => match us, hl with | [_, _], _ => rfl
  obtain ⟨c_History_back_to, f_History_back_to, fd_History_back_to, gc_History_back_to, hc_History_back_to, hm_History_back_to, F_History_back_to⟩ := C.f_History_back_to
  have k_History_back_to := ok_History_back_to (P := P) (w := w) (base := base) C F_History_back_to
  have b_History_back_to : Binds K fd_History_back_to ["self", "steps"] [] := F_History_back_to.bindsN fun _ _ _ _ _ _ us hl => match us, hl with | [_, _], _ => rfl
  obtain ⟨c_History_steps, p_History_steps, f_History_steps, fd_History_steps, gc_History_steps, hc_History_steps, hp_History_steps, F_History_steps⟩ := C.f_History_steps
  have k_History_steps := ok_History_steps (P := P) (w := w) (base := base) C F_History_steps
  have b_History_steps : Binds K fd_History_steps ["self"] [] := F_History_steps.bindsN fun _ _ _ _ _ _ us hl => match us, hl with | [_], _ => rfl
  obtain ⟨c_History_undone, p_History_undone, f_History_undone, fd_History_undone, gc_History_undone, hc_History_undone, hp_History_undone, F_History_undone⟩ := C.f_History_undone
  have k_History_undone := ok_History_undone (P := P) (w := w) (base := base) C F_History_undone
  have b_History_undone : Binds K fd_History_undone ["self"] [] := F_History_undone.bindsN fun _ _ _ _ _ _ us hl => match us, hl with | [_], _ => rfl
  obtain ⟨c_History_redo, f_History_redo, fd_History_redo, gc_History_redo, hc_History_redo, hm_History_redo, F_History_redo⟩ := C.f_History_redo
  have k_History_redo := ok_History_redo (P := P) (w := w) (base := base) C F_History_redo
  have b_History_redo : Binds K fd_History_redo ["self"] [] := F_History_redo.bindsN fun _ _ _ _ _ _ us hl => match us, hl with | [_], _ => rfl
  obtain ⟨c_History_push, f_History_push, fd_History_push, gc_History_push, hc_History_push, hm_History_push, F_History_push⟩ := C.f_History_push
  have k_History_push := ok_History_push (P := P) (w := w) (base := base) C F_History_push
  have b_History_push : Binds K fd_History_push ["self", "state"] [] := F_History_push.bindsN fun _ _ _ _ _ _ us hl => match us, hl with | [_, _], _ => rfl
  refine fn__f FD sc_l_long_holds rfl fun cdv A outer s H E hr   => ?_
  exact s_is (s_T (T := (M_History___init__ (.inl (0 : Int) : (Int ⊕ (Str ⊕ (List Str))))).bind fun r369 => (some (r369 : ((List (Int ⊕ (Str ⊕ (List Str)))) × (List (Int ⊕ (Str ⊕ (List Str))))))).bind fun x370 => grd (rg (1500 : Int) = true) ((forS (rngL 0 (1500 : Int).toNat) (x370 : ((List (Int ⊕ (Str ⊕ (List Str)))) × (List (Int ⊕ (Str ⊕ (List Str)))))) fun x376 s375 => (M_History_push s375 (.inl x376 : (Int ⊕ (Str ⊕ (List Str))))).bind fun r409 => some (r409.2)).bind fun s377 => ((M_History_back_to s377 (0 : Int)).bind okx).bind fun r378 => (smL (r378.1)).bind fun u379 => ((if (!decide (u379 = (0 : Int))) = true then some (true, ()) else (M_History_steps (r378.2)).bind fun r383 => ((if (!decide (r383 = (0 : Int))) = true then some (true, ()) else (M_History_undone (r378.2)).bind fun r386 => some ((!decide (r386 = (1500 : Int))), ()))).bind fun c387 => some (c387.1, ()))).bind fun c388 => if c388.1 = true then some false else ((M_History_redo (r378.2)).bind okx).bind fun r390 => (smL (r390.1)).bind fun u391 => ((if (decide (u391 = (0 : Int))) = true then ((M_History_redo (r390.2)).bind okx).bind fun r397 => (smL (r397.1)).bind fun u398 => ((if (decide (u398 = (1 : Int))) = true then (M_History_steps (r397.2)).bind fun r402 => ((if (decide (r402 = (2 : Int))) = true then (M_History_undone (r397.2)).bind fun r405 => some ((decide (r405 = (1498 : Int))), ()) else some (false, ()))).bind fun c406 => some (c406.1, ()) else some (false, ()))).bind fun c407 => some (c407.1, r397.2) else some (false, r390.2))).bind fun c408 => some (c408.1))) (s_letO (i := 0) (O_History mg) sc_l_long_holds.nd (o_kd (E := fun (b_ : ((Unit × Unit) × ((List (Int ⊕ (Str ⊕ (List Str)))) × (List (Int ⊕ (Str ⊕ (List Str))))))) => (O_History mg) b_.2) (x_makeO (kk := 1) (cn := "History") (xs := fun (b : (Unit × Unit)) => (.inl (0 : Int) : (Int ⊕ (Str ⊕ (List Str))))) (D := fun b => O_History mg b.2) hK_History k_History___init__ (hr.mono (by decide)) gC_History b_History___init__ (a_cons (co_inl (E := pInt) (G := (pSm pStr (I_Unlike mg))) (x_int (i := 0))) (fun _ => a_nil)))) fun (b371 : ((Unit × Unit) × ((List (Int ⊕ (Str ⊕ (List Str)))) × (List (Int ⊕ (Str ⊕ (List Str))))))) x370 v373 => s_T (T := grd (rg (1500 : Int) = true) ((forS (rngL 0 (1500 : Int).toNat) (x370 : ((List (Int ⊕ (Str ⊕ (List Str)))) × (List (Int ⊕ (Str ⊕ (List Str)))))) fun x376 s375 => (M_History_push s375 (.inl x376 : (Int ⊕ (Str ⊕ (List Str))))).bind fun r409 => some (r409.2)).bind fun s377 => ((M_History_back_to s377 (0 : Int)).bind okx).bind fun r378 => (smL (r378.1)).bind fun u379 => ((if (!decide (u379 = (0 : Int))) = true then some (true, ()) else (M_History_steps (r378.2)).bind fun r383 => ((if (!decide (r383 = (0 : Int))) = true then some (true, ()) else (M_History_undone (r378.2)).bind fun r386 => some ((!decide (r386 = (1500 : Int))), ()))).bind fun c387 => some (c387.1, ()))).bind fun c388 => if c388.1 = true then some false else ((M_History_redo (r378.2)).bind okx).bind fun r390 => (smL (r390.1)).bind fun u391 => ((if (decide (u391 = (0 : Int))) = true then ((M_History_redo (r390.2)).bind okx).bind fun r397 => (smL (r397.1)).bind fun u398 => ((if (decide (u398 = (1 : Int))) = true then (M_History_steps (r397.2)).bind fun r402 => ((if (decide (r402 = (2 : Int))) = true then (M_History_undone (r397.2)).bind fun r405 => some ((decide (r405 = (1498 : Int))), ()) else some (false, ()))).bind fun c406 => some (c406.1, ()) else some (false, ()))).bind fun c407 => some (c407.1, r397.2) else some (false, r390.2))).bind fun c408 => some (c408.1))) (s_forS PassesOwn.never (fun (b_ : Unit) (s_ : ((List (Int ⊕ (Str ⊕ (List Str)))) × (List (Int ⊕ (Str ⊕ (List Str)))))) => ([some (pV v373), none], [⟨v373, (O_History mg) s_, none⟩])) (fun (b_ : Unit) => x370) (i_rng1 m_range (x_int (i := 1500))) (pg_name (i := 1) sc_l_long_holds.nd rfl (by first | exact .inl rfl | exact .inr rfl)) (tg_name 1) (fun _ => (by exact ⟨rfl, trivial⟩)) (fun _ => List.Sublist.refl _) (fun b374 x376 s375 => s_T (T := (M_History_push s375 (.inl x376 : (Int ⊕ (Str ⊕ (List Str))))).bind fun r409 => some (r409.2)) (s_expr (x_kd (E := fun (b_ : ((Unit × (Unit × Unit)) × (Unit × ((List (Int ⊕ (Str ⊕ (List Str)))) × (List (Int ⊕ (Str ⊕ (List Str)))))))) => pUnit ()) (x_NM (kk := 1) (cn := "History") (xs := fun (_ : Unit) (b : (Unit × Unit)) => ((v373, s375), (.inl x376 : (Int ⊕ (Str ⊕ (List Str)))))) [none] _ 0 gc_History_push hc_History_push hm_History_push k_History_push (hr.mono (by decide)) b_History_push (x_var (p := pV v373) 0) (fun _ => rfl) (by decide +kernel) (fun _ => a_cons (co_inl (E := pInt) (G := (pSm pStr (I_Unlike mg))) (x_var (p := pInt x376) 1)) (fun _ => a_nil)) (fun _ _ => rfl) (fun _ _ _ _ ok => (ok.out (j := 0) rfl)) (fun _ _ _ _ _ ok => (ok.back (j := 0) rfl)) (hn := fun _ _ => ⟨rfl, trivial⟩))) fun (b410 : ((Unit × (Unit × Unit)) × (Unit × ((List (Int ⊕ (Str ⊕ (List Str)))) × (List (Int ⊕ (Str ⊕ (List Str)))))))) => s_end b410.2.2 rfl (by exact ⟨rfl, trivial⟩) (List.Sublist.refl _))) fun b374 s377 => s_T (T := ((M_History_back_to s377 (0 : Int)).bind okx).bind fun r378 => (smL (r378.1)).bind fun u379 => ((if (!decide (u379 = (0 : Int))) = true then some (true, ()) else (M_History_steps (r378.2)).bind fun r383 => ((if (!decide (r383 = (0 : Int))) = true then some (true, ()) else (M_History_undone (r378.2)).bind fun r386 => some ((!decide (r386 = (1500 : Int))), ()))).bind fun c387 => some (c387.1, ()))).bind fun c388 => if c388.1 = true then some false else ((M_History_redo (r378.2)).bind okx).bind fun r390 => (smL (r390.1)).bind fun u391 => ((if (decide (u391 = (0 : Int))) = true then ((M_History_redo (r390.2)).bind okx).bind fun r397 => (smL (r397.1)).bind fun u398 => ((if (decide (u398 = (1 : Int))) = true then (M_History_steps (r397.2)).bind fun r402 => ((if (decide (r402 = (2 : Int))) = true then (M_History_undone (r397.2)).bind fun r405 => some ((decide (r405 = (1498 : Int))), ()) else some (false, ()))).bind fun c406 => some (c406.1, ()) else some (false, ()))).bind fun c407 => some (c407.1, r397.2) else some (false, r390.2))).bind fun c408 => some (c408.1)) (s_ifT (ins_F _) (t_kd (c := fun (b_ : (((((Unit × (Unit × Unit)) × ((Int ⊕ (Str ⊕ (List Str))) × ((List (Int ⊕ (Str ⊕ (List Str)))) × (List (Int ⊕ (Str ⊕ (List Str))))))) × Int) × Unit) × (Bool × Unit))) => b_.2.1) (PW.pt (w_orM (ΔS := fun (b_ : ((((Unit × (Unit × Unit)) × ((Int ⊕ (Str ⊕ (List Str))) × ((List (Int ⊕ (Str ⊕ (List Str)))) × (List (Int ⊕ (Str ⊕ (List Str))))))) × Int) × Unit)) (s_ : Unit) => [⟨v373, (O_History mg) b_.1.1.2.2, none⟩]) (s1 := fun (b_ : ((((Unit × (Unit × Unit)) × ((Int ⊕ (Str ⊕ (List Str))) × ((List (Int ⊕ (Str ⊕ (List Str)))) × (List (Int ⊕ (Str ⊕ (List Str))))))) × Int) × Unit)) => ()) (s2 := fun (b_ : ((((Unit × (Unit × Unit)) × ((Int ⊕ (Str ⊕ (List Str))) × ((List (Int ⊕ (Str ⊕ (List Str)))) × (List (Int ⊕ (Str ⊕ (List Str))))))) × Int) × Unit)) (c_ : (((Unit × Int) × Unit) × (Bool × Unit))) => ()) (t_kd (c := fun (b_ : ((((Unit × (Unit × Unit)) × ((Int ⊕ (Str ⊕ (List Str))) × ((List (Int ⊕ (Str ⊕ (List Str)))) × (List (Int ⊕ (Str ⊕ (List Str))))))) × Int) × Unit)) => (!decide (b_.1.2 = (0 : Int)))) (t_neI (x_inl (E := pInt) (G := (pSm pStr (I_Unlike mg))) (x_kd (E := fun (b_ : ((Unit × (Unit × Unit)) × ((Int ⊕ (Str ⊕ (List Str))) × ((List (Int ⊕ (Str ⊕ (List Str)))) × (List (Int ⊕ (Str ⊕ (List Str)))))))) => (pSm pInt (pSm pStr (I_Unlike mg))) b_.2.1) (x_ZNM (kk := 1) (cn := "History") (xs := fun (_ : Unit) (b : (Unit × Unit)) => ((v373, s377), (0 : Int))) [none] _ 0 gc_History_back_to hc_History_back_to hm_History_back_to k_History_back_to (hr.mono (by decide)) b_History_back_to (x_var (p := pV v373) 0) (fun _ => rfl) (by decide +kernel) (fun _ => a_cons (x_int (i := 0)) (fun _ => a_nil)) (fun _ _ => rfl) (fun _ _ _ _ ok => (ok.out (j := 0) rfl)) (fun _ _ _ _ _ ok => (ok.back (j := 0) rfl)) (hn := fun _ _ => ⟨rfl, trivial⟩)))) (fun _ => x_int (i := 0)))) (fun (b382 : ((((Unit × (Unit × Unit)) × ((Int ⊕ (Str ⊕ (List Str))) × ((List (Int ⊕ (Str ⊕ (List Str)))) × (List (Int ⊕ (Str ⊕ (List Str))))))) × Int) × Unit)) => w_orM (ΔS := fun (b_ : ((Unit × Int) × Unit)) (s_ : Unit) => [⟨v373, (O_History mg) b382.1.1.2.2, none⟩]) (s1 := fun (b_ : ((Unit × Int) × Unit)) => ()) (s2 := fun (b_ : ((Unit × Int) × Unit)) (c_ : ((Unit × Int) × Unit)) => ()) (t_kd (c := fun (b_ : ((Unit × Int) × Unit)) => (!decide (b_.1.2 = (0 : Int)))) (t_neI (x_kd (E := fun (b_ : (Unit × Int)) => pInt b_.2) (x_lockG (d := (O_History mg) b382.1.1.2.2) 0 0 feInt (x_propF (Δ1 := fun _ => _) (kk := 1) (cn := "History") (xs := fun (b : Unit) => b382.1.1.2.2) gc_History_steps hc_History_steps hp_History_steps k_History_steps (hr.mono (by decide)) b_History_steps (x_var (p := (I_History mg) b382.1.1.2.2) 0)))) (fun _ => x_int (i := 0)))) (fun (b385 : ((Unit × Int) × Unit)) => w_or1 (t_kd (c := fun (b_ : ((Unit × Int) × Unit)) => (!decide (b_.1.2 = (1500 : Int)))) (t_neI (x_kd (E := fun (b_ : (Unit × Int)) => pInt b_.2) (x_lockG (d := (O_History mg) b382.1.1.2.2) 0 0 feInt (x_propF (Δ1 := fun _ => _) (kk := 1) (cn := "History") (xs := fun (b : Unit) => b382.1.1.2.2) gc_History_undone hc_History_undone hp_History_undone k_History_undone (hr.mono (by decide)) b_History_undone (x_var (p := (I_History mg) b382.1.1.2.2) 0)))) (fun _ => x_int (i := 1500))))) (fun _ => rfl) (fun _ _ => rfl)) (fun _ => rfl) (fun _ _ => rfl)))) (fun (b389 : (((((Unit × (Unit × Unit)) × ((Int ⊕ (Str ⊕ (List Str))) × ((List (Int ⊕ (Str ⊕ (List Str)))) × (List (Int ⊕ (Str ⊕ (List Str))))))) × Int) × Unit) × (Bool × Unit))) => s_T (T := some false) (s_ret (P := (fun _ => [])) (Rp := pBl) (ι := id) (rv := fun (b : Unit) => false) (fun _ _ _ h => by exact h) x_bl (fun _ => .cons _ (.slnil)))) fun (b389 : (((((Unit × (Unit × Unit)) × ((Int ⊕ (Str ⊕ (List Str))) × ((List (Int ⊕ (Str ⊕ (List Str)))) × (List (Int ⊕ (Str ⊕ (List Str))))))) × Int) × Unit) × (Bool × Unit))) => s_T (T := ((M_History_redo (b389.1.1.1.2.2)).bind okx).bind fun r390 => (smL (r390.1)).bind fun u391 => ((if (decide (u391 = (0 : Int))) = true then ((M_History_redo (r390.2)).bind okx).bind fun r397 => (smL (r397.1)).bind fun u398 => ((if (decide (u398 = (1 : Int))) = true then (M_History_steps (r397.2)).bind fun r402 => ((if (decide (r402 = (2 : Int))) = true then (M_History_undone (r397.2)).bind fun r405 => some ((decide (r405 = (1498 : Int))), ()) else some (false, ()))).bind fun c406 => some (c406.1, ()) else some (false, ()))).bind fun c407 => some (c407.1, r397.2) else some (false, r390.2))).bind fun c408 => some (c408.1)) (s_ret (P := (fun _ => [])) (Rp := pBl) (ι := id) (rv := fun (b : ((((Unit × ((Int ⊕ (Str ⊕ (List Str))) × ((List (Int ⊕ (Str ⊕ (List Str)))) × (List (Int ⊕ (Str ⊕ (List Str))))))) × Int) × Unit) × (Bool × ((List (Int ⊕ (Str ⊕ (List Str)))) × (List (Int ⊕ (Str ⊕ (List Str)))))))) => b.2.1) (fun _ _ _ h => by exact h) (x_kd (x_kd (E := fun (b_ : ((((Unit × ((Int ⊕ (Str ⊕ (List Str))) × ((List (Int ⊕ (Str ⊕ (List Str)))) × (List (Int ⊕ (Str ⊕ (List Str))))))) × Int) × Unit) × (Bool × ((List (Int ⊕ (Str ⊕ (List Str)))) × (List (Int ⊕ (Str ⊕ (List Str)))))))) => pBl b_.2.1) (v_andM (ΔS := fun (b_ : (((Unit × ((Int ⊕ (Str ⊕ (List Str))) × ((List (Int ⊕ (Str ⊕ (List Str)))) × (List (Int ⊕ (Str ⊕ (List Str))))))) × Int) × Unit)) (s_ : ((List (Int ⊕ (Str ⊕ (List Str)))) × (List (Int ⊕ (Str ⊕ (List Str)))))) => [⟨v373, (O_History mg) s_, none⟩]) (s1 := fun (b_ : (((Unit × ((Int ⊕ (Str ⊕ (List Str))) × ((List (Int ⊕ (Str ⊕ (List Str)))) × (List (Int ⊕ (Str ⊕ (List Str))))))) × Int) × Unit)) => b_.1.1.2.2) (s2 := fun (b_ : (((Unit × ((Int ⊕ (Str ⊕ (List Str))) × ((List (Int ⊕ (Str ⊕ (List Str)))) × (List (Int ⊕ (Str ⊕ (List Str))))))) × Int) × Unit)) (c_ : ((((Unit × ((Int ⊕ (Str ⊕ (List Str))) × ((List (Int ⊕ (Str ⊕ (List Str)))) × (List (Int ⊕ (Str ⊕ (List Str))))))) × Int) × Unit) × (Bool × Unit))) => c_.1.1.1.2.2) (x_kd (E := fun (b_ : (((Unit × ((Int ⊕ (Str ⊕ (List Str))) × ((List (Int ⊕ (Str ⊕ (List Str)))) × (List (Int ⊕ (Str ⊕ (List Str))))))) × Int) × Unit)) => pBl (decide (b_.1.2 = (0 : Int)))) (x_eqI (x_inl (E := pInt) (G := (pSm pStr (I_Unlike mg))) (x_kd (E := fun (b_ : (Unit × ((Int ⊕ (Str ⊕ (List Str))) × ((List (Int ⊕ (Str ⊕ (List Str)))) × (List (Int ⊕ (Str ⊕ (List Str)))))))) => (pSm pInt (pSm pStr (I_Unlike mg))) b_.2.1) (x_ZNM0 (kk := 1) (cn := "History") (xs := fun (b : Unit) => (v373, b389.1.1.1.2.2)) [none] _ 0 gc_History_redo hc_History_redo hm_History_redo k_History_redo (hr.mono (by decide)) b_History_redo (x_var (p := pV v373) 0) (fun _ => rfl) (by decide +kernel) (fun _ => rfl) (fun _ _ _ ok => (ok.out (j := 0) rfl)) (fun _ _ _ _ ok => (ok.back (j := 0) rfl)) (hn := fun _ _ => ⟨rfl, trivial⟩)))) (fun _ => x_int (i := 0)))) (fun (b396 : (((Unit × ((Int ⊕ (Str ⊕ (List Str))) × ((List (Int ⊕ (Str ⊕ (List Str)))) × (List (Int ⊕ (Str ⊕ (List Str))))))) × Int) × Unit)) => v_andM (ΔS := fun (b_ : (((Unit × ((Int ⊕ (Str ⊕ (List Str))) × ((List (Int ⊕ (Str ⊕ (List Str)))) × (List (Int ⊕ (Str ⊕ (List Str))))))) × Int) × Unit)) (s_ : Unit) => [⟨v373, (O_History mg) b_.1.1.2.2, none⟩]) (s1 := fun (b_ : (((Unit × ((Int ⊕ (Str ⊕ (List Str))) × ((List (Int ⊕ (Str ⊕ (List Str)))) × (List (Int ⊕ (Str ⊕ (List Str))))))) × Int) × Unit)) => ()) (s2 := fun (b_ : (((Unit × ((Int ⊕ (Str ⊕ (List Str))) × ((List (Int ⊕ (Str ⊕ (List Str)))) × (List (Int ⊕ (Str ⊕ (List Str))))))) × Int) × Unit)) (c_ : (((Unit × Int) × Unit) × (Bool × Unit))) => ()) (x_kd (E := fun (b_ : (((Unit × ((Int ⊕ (Str ⊕ (List Str))) × ((List (Int ⊕ (Str ⊕ (List Str)))) × (List (Int ⊕ (Str ⊕ (List Str))))))) × Int) × Unit)) => pBl (decide (b_.1.2 = (1 : Int)))) (x_eqI (x_inl (E := pInt) (G := (pSm pStr (I_Unlike mg))) (x_kd (E := fun (b_ : (Unit × ((Int ⊕ (Str ⊕ (List Str))) × ((List (Int ⊕ (Str ⊕ (List Str)))) × (List (Int ⊕ (Str ⊕ (List Str)))))))) => (pSm pInt (pSm pStr (I_Unlike mg))) b_.2.1) (x_ZNM0 (kk := 1) (cn := "History") (xs := fun (b : Unit) => (v373, b396.1.1.2.2)) [none] _ 0 gc_History_redo hc_History_redo hm_History_redo k_History_redo (hr.mono (by decide)) b_History_redo (x_var (p := pV v373) 0) (fun _ => rfl) (by decide +kernel) (fun _ => rfl) (fun _ _ _ ok => (ok.out (j := 0) rfl)) (fun _ _ _ _ ok => (ok.back (j := 0) rfl)) (hn := fun _ _ => ⟨rfl, trivial⟩)))) (fun _ => x_int (i := 1)))) (fun (b401 : (((Unit × ((Int ⊕ (Str ⊕ (List Str))) × ((List (Int ⊕ (Str ⊕ (List Str)))) × (List (Int ⊕ (Str ⊕ (List Str))))))) × Int) × Unit)) => v_andM (ΔS := fun (b_ : ((Unit × Int) × Unit)) (s_ : Unit) => [⟨v373, (O_History mg) b401.1.1.2.2, none⟩]) (s1 := fun (b_ : ((Unit × Int) × Unit)) => ()) (s2 := fun (b_ : ((Unit × Int) × Unit)) (c_ : ((Unit × Int) × Unit)) => ()) (x_kd (E := fun (b_ : ((Unit × Int) × Unit)) => pBl (decide (b_.1.2 = (2 : Int)))) (x_eqI (x_kd (E := fun (b_ : (Unit × Int)) => pInt b_.2) (x_lockG (d := (O_History mg) b401.1.1.2.2) 0 0 feInt (x_propF (Δ1 := fun _ => _) (kk := 1) (cn := "History") (xs := fun (b : Unit) => b401.1.1.2.2) gc_History_steps hc_History_steps hp_History_steps k_History_steps (hr.mono (by decide)) b_History_steps (x_var (p := (I_History mg) b401.1.1.2.2) 0)))) (fun _ => x_int (i := 2)))) (fun (b404 : ((Unit × Int) × Unit)) => v_one (x_kd (E := fun (b_ : ((Unit × Int) × Unit)) => pBl (decide (b_.1.2 = (1498 : Int)))) (x_eqI (x_kd (E := fun (b_ : (Unit × Int)) => pInt b_.2) (x_lockG (d := (O_History mg) b401.1.1.2.2) 0 0 feInt (x_propF (Δ1 := fun _ => _) (kk := 1) (cn := "History") (xs := fun (b : Unit) => b401.1.1.2.2) gc_History_undone hc_History_undone hp_History_undone k_History_undone (hr.mono (by decide)) b_History_undone (x_var (p := (I_History mg) b401.1.1.2.2) 0)))) (fun _ => x_int (i := 1498))))) (fun _ => rfl) (fun _ _ => rfl)) (fun _ => rfl) (fun _ _ => rfl)) (fun _ => rfl) (fun _ _ => rfl)))) (fun _ => .cons _ (.slnil))))))) (by unfold M_l_long_holds; rfl)
end
end My
end
section
set_option maxHeartbeats 4000000
set_option synthInstance.maxSize 2000
namespace My
open PySem PySem.Spec PyProof.Rows L2 L3
section
variable {P : Program} {w : World} {K : PySem.W.Frag} {mg : Str → Option Value} {base : Heap}
theorem sc_law : FnScope ["_law_script", "_law_starts", "_law_one", "_law_two", "_law_histories", "_law_before", "_law_after", "_law_k", "_law_at", "_law_stream_here", "_law_other"] ["_law_script"] (defScope (top 47)) := ⟨rfl, rfl, rfl, by decide +kernel, rfl, by decide +kernel, by decide +kernel⟩
theorem ok_law {f : Addr} {fd : FuncData} (C : Ev P K mg) (FD : FnP K "law" (top 47) f fd)   : FnOk P w K mg base CX0 6 f fd ["_law_script"] (Sp_S K M_law) := by
  obtain ⟨C_History, fI_History, fdI_History, gC_History, hC_History, hK_History, FI_History, n_History__done, n_History__undone⟩ := C.c_History
  have m_len := C.m_len
  have m_min := C.m_min
  have m_range := C.m_range
  obtain ⟨f_l_stream, fd_l_stream, F_l_stream, g_l_stream⟩ := C.f_l_stream
  have k_l_stream := ok_l_stream (P := P) (w := w) (base := base) C F_l_stream
  have b_l_stream : Binds K fd_l_stream ["_law_script", "_law_k"] [] := F_l_stream.bindsN fun _ _ _ _ _ _ us hl => match us, hl with | [_, _], _ => rfl
  obtain ⟨f_l_state, fd_l_state, F_l_state, g_l_state⟩ := C.f_l_state
  have k_l_state := ok_l_state (P := P) (w := w) (base := base) C F_l_state
  have b_l_state : Binds K fd_l_state ["_law_stream_here"] [] := F_l_state.bindsN fun _ _ _ _ _ _ us hl => match us, hl with | [_], _ => rfl
  have k_History___init__ := ok_History___init__ (P := P) (w := w) (base := base) C FI_History
  have b_History___init__ : Binds K fdI_History ["self", "start"] [] := FI_History.bindsN fun _ _ _ _ _ _ us hl => match us, hl with | [_, _], _ => rfl
  obtain ⟨f_l_next, fd_l_next, F_l_next, g_l_next⟩ := C.f_l_next
  have k_l_next := ok_l_next (P := P) (w := w) (base := base) C F_l_next
  have b_l_next : Binds K fd_l_next ["_law_stream_here", "_law_size"] [] := F_l_next.bindsN fun _ _ _ _ _ _ us hl => match us, hl with | [_, _], _ => rfl
  obtain ⟨f_l_long_holds, fd_l_long_holds, F_l_long_holds, g_l_long_holds⟩ := C.f_l_long_holds
  have k_l_long_holds := ok_l_long_holds (P := P) (w := w) (base := base) C F_l_long_holds
  have b_l_long_holds : Binds K fd_l_long_holds [] [] := F_l_long_holds.bindsN fun _ _ _ _ _ _ us hl => match us, hl with | [], _ => rfl
  obtain ⟨f_l_looks, fd_l_looks, F_l_looks, g_l_looks⟩ := C.f_l_looks
  have k_l_looks := ok_l_looks (P := P) (w := w) (base := base) C F_l_looks
  have b_l_looks : Binds K fd_l_looks ["_law_history", "_law_before", "_law_after"] [] := F_l_looks.bindsN fun _ _ _ _ _ _ us hl => match us, hl with | [_, _, _], _ => rfl
  obtain ⟨f_l_down_and_up, fd_l_down_and_up, F_l_down_and_up, g_l_down_and_up⟩ := C.f_l_down_and_up
  have k_l_down_and_up := ok_l_down_and_up (P := P) (w := w) (base := base) C F_l_down_and_up
  have b_l_down_and_up : Binds K fd_l_down_and_up ["_law_history", "_law_before", "_law_after"] [] := F_l_down_and_up.bindsN fun _ _ _ _ _ _ us hl => match us, hl with | [_, _, _], _ => rfl
  obtain ⟨f_l_deed, fd_l_deed, F_l_deed, g_l_deed⟩ := C.f_l_deed
  have k_l_deed := ok_l_deed (P := P) (w := w) (base := base) C F_l_deed
  have b_l_deed : Binds K fd_l_deed ["_law_history", "_law_before", "_law_after", "_law_stream_here"] [] := F_l_deed.bindsN fun _ _ _ _ _ _ us hl => match us, hl with | [_, _, _, _], _ => rfl
  refine fn_S FD sc_law rfl fun cdv A outer s H E hr Mq a1 => ?_
  exact s_is (s_T (T := (M_l_stream a1 (0 : Int)).bind fun r411 => (some (r411 : List Int)).bind fun x412 => (M_l_state x412).bind fun r416 => (some (r416.1 : (Int ⊕ (Str ⊕ (List Str))))).bind fun x417 => (M_l_state (r416.2)).bind fun r419 => (some (r419.1 : (Int ⊕ (Str ⊕ (List Str))))).bind fun x420 => (M_History___init__ x417).bind fun r422 => (M_History___init__ x420).bind fun r423 => (some ([r422, r423] : List ((List (Int ⊕ (Str ⊕ (List Str)))) × (List (Int ⊕ (Str ⊕ (List Str))))))).bind fun x424 => (some ([[x417], [x420]] : List (List (Int ⊕ (Str ⊕ (List Str)))))).bind fun x428 => (some ([[], []] : List (List (Int ⊕ (Str ⊕ (List Str)))))).bind fun x432 => grd (rg2 (1 : Int) (min (a1.length : Int) (63 : Int)) = true) ((forL (rngL (1 : Int) ((min (a1.length : Int) (63 : Int)) - (1 : Int)).toNat) ((x432, x428, x424) : (List (List (Int ⊕ (Str ⊕ (List Str))))) × (List (List (Int ⊕ (Str ⊕ (List Str))))) × (List ((List (Int ⊕ (Str ⊕ (List Str)))) × (List (Int ⊕ (Str ⊕ (List Str))))))) fun x438 s437 => (M_l_stream a1 x438).bind fun r473 => (some (r473 : List Int)).bind fun x474 => (M_l_next x474 (4 : Int)).bind fun r478 => grd (dv (3 : Int) = true) ((some (((r478.1) / (3 : Int)) : Int)).bind fun x479 => (ixN (s437.2.2).length x479).bind fun m481 => ((s437.2.2)[m481]?).bind fun x482 => (ixN (s437.2.1).length x479).bind fun m485 => ((s437.2.1)[m485]?).bind fun x486 => (ixN (s437.1).length x479).bind fun m489 => ((s437.1)[m489]?).bind fun x490 => (M_l_deed x482 x486 x490 (r478.2)).bind fun r493 => if (!(r493.1)) = true then inB (some (Tm.rt false)) else (M_l_next (r493.2.2.2.2) (2 : Int)).bind fun r495 => (if (decide ((r495.1) = (0 : Int))) = true then grd (rg (2 : Int) = true) ((forL (rngL 0 (2 : Int).toNat) (() : Unit) fun x500 s499 => (atI ((s437.2.2).set m481 (r493.2.1)) x500).bind fun x502 => (atI ((s437.2.1).set m485 (r493.2.2.1)) x500).bind fun x503 => (atI ((s437.1).set m489 (r493.2.2.2.1)) x500).bind fun x504 => (M_l_looks x502 x503 x504).bind fun r505 => if (!r505) = true then inB (some (Tm.rt false)) else some (Bo.nx ())).bind (boK (fun s501 => some (Bo.nx (r495.2))) (fun r => Bo.tm (Tm.rt r)))) else some (Bo.nx (r495.2))).bind (boK (fun s497 => some (Bo.nx (((s437.1).set m489 (r493.2.2.2.1)), ((s437.2.1).set m485 (r493.2.2.1)), ((s437.2.2).set m481 (r493.2.1))))) Bo.tm))).bind (boK (fun s439 => (M_l_next (r419.2) (16 : Int)).bind fun r440 => ((if (decide ((r440.1) = (15 : Int))) = true then (M_l_long_holds).bind fun r443 => some ((!r443), ()) else some (false, ()))).bind fun c444 => if c444.1 = true then some false else grd (rg (2 : Int) = true) ((forL (rngL 0 (2 : Int).toNat) ((s439.1, s439.2.1, s439.2.2) : (List (List (Int ⊕ (Str ⊕ (List Str))))) × (List (List (Int ⊕ (Str ⊕ (List Str))))) × (List ((List (Int ⊕ (Str ⊕ (List Str)))) × (List (Int ⊕ (Str ⊕ (List Str))))))) fun x448 s447 => (atI (s447.2.2) x448).bind fun x454 => (atI (s447.2.1) x448).bind fun x455 => (atI (s447.1) x448).bind fun x456 => (M_l_looks x454 x455 x456).bind fun r457 => if (!r457) = true then inB (some (Tm.rt false)) else (ixN (s447.2.2).length x448).bind fun m459 => ((s447.2.2)[m459]?).bind fun x460 => (ixN (s447.2.1).length x448).bind fun m463 => ((s447.2.1)[m463]?).bind fun x464 => (ixN (s447.1).length x448).bind fun m467 => ((s447.1)[m467]?).bind fun x468 => (M_l_down_and_up x460 x464 x468).bind fun r471 => if (!(r471.1)) = true then inB (some (Tm.rt false)) else some (Bo.nx (((s447.1).set m467 (r471.2.2.2)), ((s447.2.1).set m463 (r471.2.2.1)), ((s447.2.2).set m459 (r471.2.1))))).bind (boK (fun s449 => (atI (s449.2.2) (0 : Int)).bind fun x450 => (atI (s449.2.1) (0 : Int)).bind fun x451 => (atI (s449.1) (0 : Int)).bind fun x452 => (M_l_looks x450 x451 x452).bind fun r453 => some r453) id))) id))) (s_letO (i := 1) (oL pInt) sc_law.nd (o_kd (E := fun (b_ : ((Unit × Unit) × (List Int))) => (oL pInt) b_.2) (x_FF_o (kk := 1) (E1 := (pS K)) (E2 := pInt) k_l_stream (hr.mono (by decide)) g_l_stream F_l_stream.kp b_l_stream (x_var (p := (pS K) a1) 0) (fun _ => x_int (i := 0)))) fun (b413 : ((Unit × Unit) × (List Int))) x412 v415 => s_T (T := (M_l_state x412).bind fun r416 => (some (r416.1 : (Int ⊕ (Str ⊕ (List Str))))).bind fun x417 => (M_l_state (r416.2)).bind fun r419 => (some (r419.1 : (Int ⊕ (Str ⊕ (List Str))))).bind fun x420 => (M_History___init__ x417).bind fun r422 => (M_History___init__ x420).bind fun r423 => (some ([r422, r423] : List ((List (Int ⊕ (Str ⊕ (List Str)))) × (List (Int ⊕ (Str ⊕ (List Str))))))).bind fun x424 => (some ([[x417], [x420]] : List (List (Int ⊕ (Str ⊕ (List Str)))))).bind fun x428 => (some ([[], []] : List (List (Int ⊕ (Str ⊕ (List Str)))))).bind fun x432 => grd (rg2 (1 : Int) (min (a1.length : Int) (63 : Int)) = true) ((forL (rngL (1 : Int) ((min (a1.length : Int) (63 : Int)) - (1 : Int)).toNat) ((x432, x428, x424) : (List (List (Int ⊕ (Str ⊕ (List Str))))) × (List (List (Int ⊕ (Str ⊕ (List Str))))) × (List ((List (Int ⊕ (Str ⊕ (List Str)))) × (List (Int ⊕ (Str ⊕ (List Str))))))) fun x438 s437 => (M_l_stream a1 x438).bind fun r473 => (some (r473 : List Int)).bind fun x474 => (M_l_next x474 (4 : Int)).bind fun r478 => grd (dv (3 : Int) = true) ((some (((r478.1) / (3 : Int)) : Int)).bind fun x479 => (ixN (s437.2.2).length x479).bind fun m481 => ((s437.2.2)[m481]?).bind fun x482 => (ixN (s437.2.1).length x479).bind fun m485 => ((s437.2.1)[m485]?).bind fun x486 => (ixN (s437.1).length x479).bind fun m489 => ((s437.1)[m489]?).bind fun x490 => (M_l_deed x482 x486 x490 (r478.2)).bind fun r493 => if (!(r493.1)) = true then inB (some (Tm.rt false)) else (M_l_next (r493.2.2.2.2) (2 : Int)).bind fun r495 => (if (decide ((r495.1) = (0 : Int))) = true then grd (rg (2 : Int) = true) ((forL (rngL 0 (2 : Int).toNat) (() : Unit) fun x500 s499 => (atI ((s437.2.2).set m481 (r493.2.1)) x500).bind fun x502 => (atI ((s437.2.1).set m485 (r493.2.2.1)) x500).bind fun x503 => (atI ((s437.1).set m489 (r493.2.2.2.1)) x500).bind fun x504 => (M_l_looks x502 x503 x504).bind fun r505 => if (!r505) = true then inB (some (Tm.rt false)) else some (Bo.nx ())).bind (boK (fun s501 => some (Bo.nx (r495.2))) (fun r => Bo.tm (Tm.rt r)))) else some (Bo.nx (r495.2))).bind (boK (fun s497 => some (Bo.nx (((s437.1).set m489 (r493.2.2.2.1)), ((s437.2.1).set m485 (r493.2.2.1)), ((s437.2.2).set m481 (r493.2.1))))) Bo.tm))).bind (boK (fun s439 => (M_l_next (r419.2) (16 : Int)).bind fun r440 => ((if (decide ((r440.1) = (15 : Int))) = true then (M_l_long_holds).bind fun r443 => some ((!r443), ()) else some (false, ()))).bind fun c444 => if c444.1 = true then some false else grd (rg (2 : Int) = true) ((forL (rngL 0 (2 : Int).toNat) ((s439.1, s439.2.1, s439.2.2) : (List (List (Int ⊕ (Str ⊕ (List Str))))) × (List (List (Int ⊕ (Str ⊕ (List Str))))) × (List ((List (Int ⊕ (Str ⊕ (List Str)))) × (List (Int ⊕ (Str ⊕ (List Str))))))) fun x448 s447 => (atI (s447.2.2) x448).bind fun x454 => (atI (s447.2.1) x448).bind fun x455 => (atI (s447.1) x448).bind fun x456 => (M_l_looks x454 x455 x456).bind fun r457 => if (!r457) = true then inB (some (Tm.rt false)) else (ixN (s447.2.2).length x448).bind fun m459 => ((s447.2.2)[m459]?).bind fun x460 => (ixN (s447.2.1).length x448).bind fun m463 => ((s447.2.1)[m463]?).bind fun x464 => (ixN (s447.1).length x448).bind fun m467 => ((s447.1)[m467]?).bind fun x468 => (M_l_down_and_up x460 x464 x468).bind fun r471 => if (!(r471.1)) = true then inB (some (Tm.rt false)) else some (Bo.nx (((s447.1).set m467 (r471.2.2.2)), ((s447.2.1).set m463 (r471.2.2.1)), ((s447.2.2).set m459 (r471.2.1))))).bind (boK (fun s449 => (atI (s449.2.2) (0 : Int)).bind fun x450 => (atI (s449.2.1) (0 : Int)).bind fun x451 => (atI (s449.1) (0 : Int)).bind fun x452 => (M_l_looks x450 x451 x452).bind fun r453 => some r453) id))) id))) (s_let (i := 2) (pSm pInt (pSm pStr (I_Unlike mg))) sc_law.nd (x_kd (E := fun (b_ : (Unit × ((Int ⊕ (Str ⊕ (List Str))) × (List Int)))) => (pSm pInt (pSm pStr (I_Unlike mg))) b_.2.1) (x_O_f (kk := 4) (E1 := (oL pInt)) (s1 := fun (_ : Unit) => x412) (v1 := v415) k_l_state (hr.mono (by decide)) g_l_state F_l_state.kp b_l_state 0 (x_var (p := pV v415) 1) (fun _ => rfl))) fun (b418 : (Unit × ((Int ⊕ (Str ⊕ (List Str))) × (List Int)))) x417 => s_T (T := (M_l_state (b418.2.2)).bind fun r419 => (some (r419.1 : (Int ⊕ (Str ⊕ (List Str))))).bind fun x420 => (M_History___init__ x417).bind fun r422 => (M_History___init__ x420).bind fun r423 => (some ([r422, r423] : List ((List (Int ⊕ (Str ⊕ (List Str)))) × (List (Int ⊕ (Str ⊕ (List Str))))))).bind fun x424 => (some ([[x417], [x420]] : List (List (Int ⊕ (Str ⊕ (List Str)))))).bind fun x428 => (some ([[], []] : List (List (Int ⊕ (Str ⊕ (List Str)))))).bind fun x432 => grd (rg2 (1 : Int) (min (a1.length : Int) (63 : Int)) = true) ((forL (rngL (1 : Int) ((min (a1.length : Int) (63 : Int)) - (1 : Int)).toNat) ((x432, x428, x424) : (List (List (Int ⊕ (Str ⊕ (List Str))))) × (List (List (Int ⊕ (Str ⊕ (List Str))))) × (List ((List (Int ⊕ (Str ⊕ (List Str)))) × (List (Int ⊕ (Str ⊕ (List Str))))))) fun x438 s437 => (M_l_stream a1 x438).bind fun r473 => (some (r473 : List Int)).bind fun x474 => (M_l_next x474 (4 : Int)).bind fun r478 => grd (dv (3 : Int) = true) ((some (((r478.1) / (3 : Int)) : Int)).bind fun x479 => (ixN (s437.2.2).length x479).bind fun m481 => ((s437.2.2)[m481]?).bind fun x482 => (ixN (s437.2.1).length x479).bind fun m485 => ((s437.2.1)[m485]?).bind fun x486 => (ixN (s437.1).length x479).bind fun m489 => ((s437.1)[m489]?).bind fun x490 => (M_l_deed x482 x486 x490 (r478.2)).bind fun r493 => if (!(r493.1)) = true then inB (some (Tm.rt false)) else (M_l_next (r493.2.2.2.2) (2 : Int)).bind fun r495 => (if (decide ((r495.1) = (0 : Int))) = true then grd (rg (2 : Int) = true) ((forL (rngL 0 (2 : Int).toNat) (() : Unit) fun x500 s499 => (atI ((s437.2.2).set m481 (r493.2.1)) x500).bind fun x502 => (atI ((s437.2.1).set m485 (r493.2.2.1)) x500).bind fun x503 => (atI ((s437.1).set m489 (r493.2.2.2.1)) x500).bind fun x504 => (M_l_looks x502 x503 x504).bind fun r505 => if (!r505) = true then inB (some (Tm.rt false)) else some (Bo.nx ())).bind (boK (fun s501 => some (Bo.nx (r495.2))) (fun r => Bo.tm (Tm.rt r)))) else some (Bo.nx (r495.2))).bind (boK (fun s497 => some (Bo.nx (((s437.1).set m489 (r493.2.2.2.1)), ((s437.2.1).set m485 (r493.2.2.1)), ((s437.2.2).set m481 (r493.2.1))))) Bo.tm))).bind (boK (fun s439 => (M_l_next (r419.2) (16 : Int)).bind fun r440 => ((if (decide ((r440.1) = (15 : Int))) = true then (M_l_long_holds).bind fun r443 => some ((!r443), ()) else some (false, ()))).bind fun c444 => if c444.1 = true then some false else grd (rg (2 : Int) = true) ((forL (rngL 0 (2 : Int).toNat) ((s439.1, s439.2.1, s439.2.2) : (List (List (Int ⊕ (Str ⊕ (List Str))))) × (List (List (Int ⊕ (Str ⊕ (List Str))))) × (List ((List (Int ⊕ (Str ⊕ (List Str)))) × (List (Int ⊕ (Str ⊕ (List Str))))))) fun x448 s447 => (atI (s447.2.2) x448).bind fun x454 => (atI (s447.2.1) x448).bind fun x455 => (atI (s447.1) x448).bind fun x456 => (M_l_looks x454 x455 x456).bind fun r457 => if (!r457) = true then inB (some (Tm.rt false)) else (ixN (s447.2.2).length x448).bind fun m459 => ((s447.2.2)[m459]?).bind fun x460 => (ixN (s447.2.1).length x448).bind fun m463 => ((s447.2.1)[m463]?).bind fun x464 => (ixN (s447.1).length x448).bind fun m467 => ((s447.1)[m467]?).bind fun x468 => (M_l_down_and_up x460 x464 x468).bind fun r471 => if (!(r471.1)) = true then inB (some (Tm.rt false)) else some (Bo.nx (((s447.1).set m467 (r471.2.2.2)), ((s447.2.1).set m463 (r471.2.2.1)), ((s447.2.2).set m459 (r471.2.1))))).bind (boK (fun s449 => (atI (s449.2.2) (0 : Int)).bind fun x450 => (atI (s449.2.1) (0 : Int)).bind fun x451 => (atI (s449.1) (0 : Int)).bind fun x452 => (M_l_looks x450 x451 x452).bind fun r453 => some r453) id))) id))) (s_let (i := 3) (pSm pInt (pSm pStr (I_Unlike mg))) sc_law.nd (x_kd (E := fun (b_ : (Unit × ((Int ⊕ (Str ⊕ (List Str))) × (List Int)))) => (pSm pInt (pSm pStr (I_Unlike mg))) b_.2.1) (x_O_f (kk := 4) (E1 := (oL pInt)) (s1 := fun (_ : Unit) => b418.2.2) (v1 := v415) k_l_state (hr.mono (by decide)) g_l_state F_l_state.kp b_l_state 0 (x_var (p := pV v415) 1) (fun _ => rfl))) fun (b421 : (Unit × ((Int ⊕ (Str ⊕ (List Str))) × (List Int)))) x420 => s_T (T := (M_History___init__ x417).bind fun r422 => (M_History___init__ x420).bind fun r423 => (some ([r422, r423] : List ((List (Int ⊕ (Str ⊕ (List Str)))) × (List (Int ⊕ (Str ⊕ (List Str))))))).bind fun x424 => (some ([[x417], [x420]] : List (List (Int ⊕ (Str ⊕ (List Str)))))).bind fun x428 => (some ([[], []] : List (List (Int ⊕ (Str ⊕ (List Str)))))).bind fun x432 => grd (rg2 (1 : Int) (min (a1.length : Int) (63 : Int)) = true) ((forL (rngL (1 : Int) ((min (a1.length : Int) (63 : Int)) - (1 : Int)).toNat) ((x432, x428, x424) : (List (List (Int ⊕ (Str ⊕ (List Str))))) × (List (List (Int ⊕ (Str ⊕ (List Str))))) × (List ((List (Int ⊕ (Str ⊕ (List Str)))) × (List (Int ⊕ (Str ⊕ (List Str))))))) fun x438 s437 => (M_l_stream a1 x438).bind fun r473 => (some (r473 : List Int)).bind fun x474 => (M_l_next x474 (4 : Int)).bind fun r478 => grd (dv (3 : Int) = true) ((some (((r478.1) / (3 : Int)) : Int)).bind fun x479 => (ixN (s437.2.2).length x479).bind fun m481 => ((s437.2.2)[m481]?).bind fun x482 => (ixN (s437.2.1).length x479).bind fun m485 => ((s437.2.1)[m485]?).bind fun x486 => (ixN (s437.1).length x479).bind fun m489 => ((s437.1)[m489]?).bind fun x490 => (M_l_deed x482 x486 x490 (r478.2)).bind fun r493 => if (!(r493.1)) = true then inB (some (Tm.rt false)) else (M_l_next (r493.2.2.2.2) (2 : Int)).bind fun r495 => (if (decide ((r495.1) = (0 : Int))) = true then grd (rg (2 : Int) = true) ((forL (rngL 0 (2 : Int).toNat) (() : Unit) fun x500 s499 => (atI ((s437.2.2).set m481 (r493.2.1)) x500).bind fun x502 => (atI ((s437.2.1).set m485 (r493.2.2.1)) x500).bind fun x503 => (atI ((s437.1).set m489 (r493.2.2.2.1)) x500).bind fun x504 => (M_l_looks x502 x503 x504).bind fun r505 => if (!r505) = true then inB (some (Tm.rt false)) else some (Bo.nx ())).bind (boK (fun s501 => some (Bo.nx (r495.2))) (fun r => Bo.tm (Tm.rt r)))) else some (Bo.nx (r495.2))).bind (boK (fun s497 => some (Bo.nx (((s437.1).set m489 (r493.2.2.2.1)), ((s437.2.1).set m485 (r493.2.2.1)), ((s437.2.2).set m481 (r493.2.1))))) Bo.tm))).bind (boK (fun s439 => (M_l_next (b421.2.2) (16 : Int)).bind fun r440 => ((if (decide ((r440.1) = (15 : Int))) = true then (M_l_long_holds).bind fun r443 => some ((!r443), ()) else some (false, ()))).bind fun c444 => if c444.1 = true then some false else grd (rg (2 : Int) = true) ((forL (rngL 0 (2 : Int).toNat) ((s439.1, s439.2.1, s439.2.2) : (List (List (Int ⊕ (Str ⊕ (List Str))))) × (List (List (Int ⊕ (Str ⊕ (List Str))))) × (List ((List (Int ⊕ (Str ⊕ (List Str)))) × (List (Int ⊕ (Str ⊕ (List Str))))))) fun x448 s447 => (atI (s447.2.2) x448).bind fun x454 => (atI (s447.2.1) x448).bind fun x455 => (atI (s447.1) x448).bind fun x456 => (M_l_looks x454 x455 x456).bind fun r457 => if (!r457) = true then inB (some (Tm.rt false)) else (ixN (s447.2.2).length x448).bind fun m459 => ((s447.2.2)[m459]?).bind fun x460 => (ixN (s447.2.1).length x448).bind fun m463 => ((s447.2.1)[m463]?).bind fun x464 => (ixN (s447.1).length x448).bind fun m467 => ((s447.1)[m467]?).bind fun x468 => (M_l_down_and_up x460 x464 x468).bind fun r471 => if (!(r471.1)) = true then inB (some (Tm.rt false)) else some (Bo.nx (((s447.1).set m467 (r471.2.2.2)), ((s447.2.1).set m463 (r471.2.2.1)), ((s447.2.2).set m459 (r471.2.1))))).bind (boK (fun s449 => (atI (s449.2.2) (0 : Int)).bind fun x450 => (atI (s449.2.1) (0 : Int)).bind fun x451 => (atI (s449.1) (0 : Int)).bind fun x452 => (M_l_looks x450 x451 x452).bind fun r453 => some r453) id))) id))) (s_letO (i := 4) (oLO (O_History mg)) sc_law.nd (o_kd (E := fun (b_ : (((Unit × Unit) × ((List (Int ⊕ (Str ⊕ (List Str)))) × (List (Int ⊕ (Str ⊕ (List Str)))))) × (((Unit × Unit) × ((List (Int ⊕ (Str ⊕ (List Str)))) × (List (Int ⊕ (Str ⊕ (List Str)))))) × Unit))) => (oLO (O_History mg)) ([b_.1.2, b_.2.1.2])) (x_dispO (D := (O_History mg)) (ao_cons (Δ1 := fun _ => _) (Δ2 := fun _ _ => _) (o_kd (E := fun (b_ : ((Unit × Unit) × ((List (Int ⊕ (Str ⊕ (List Str)))) × (List (Int ⊕ (Str ⊕ (List Str))))))) => (O_History mg) b_.2) (x_makeO (kk := 1) (cn := "History") (xs := fun (b : (Unit × Unit)) => x417) (D := fun b => O_History mg b.2) hK_History k_History___init__ (hr.mono (by decide)) gC_History b_History___init__ (a_cons (x_var (p := (pSm pInt (pSm pStr (I_Unlike mg))) x417) 2) (fun _ => a_nil)))) (fun _ _ => ao_cons (Δ1 := fun _ => _) (Δ2 := fun _ _ => _) (o_kd (E := fun (b_ : ((Unit × Unit) × ((List (Int ⊕ (Str ⊕ (List Str)))) × (List (Int ⊕ (Str ⊕ (List Str))))))) => (O_History mg) b_.2) (x_makeO (kk := 1) (cn := "History") (xs := fun (b : (Unit × Unit)) => x420) (D := fun b => O_History mg b.2) hK_History k_History___init__ (hr.mono (by decide)) gC_History b_History___init__ (a_cons (x_var (p := (pSm pInt (pSm pStr (I_Unlike mg))) x420) 3) (fun _ => a_nil)))) (fun _ _ => ao_nil))) (fun _ => by simp))) fun (b425 : (((Unit × Unit) × ((List (Int ⊕ (Str ⊕ (List Str)))) × (List (Int ⊕ (Str ⊕ (List Str)))))) × (((Unit × Unit) × ((List (Int ⊕ (Str ⊕ (List Str)))) × (List (Int ⊕ (Str ⊕ (List Str)))))) × Unit))) x424 v427 => s_T (T := (some ([[x417], [x420]] : List (List (Int ⊕ (Str ⊕ (List Str)))))).bind fun x428 => (some ([[], []] : List (List (Int ⊕ (Str ⊕ (List Str)))))).bind fun x432 => grd (rg2 (1 : Int) (min (a1.length : Int) (63 : Int)) = true) ((forL (rngL (1 : Int) ((min (a1.length : Int) (63 : Int)) - (1 : Int)).toNat) ((x432, x428, x424) : (List (List (Int ⊕ (Str ⊕ (List Str))))) × (List (List (Int ⊕ (Str ⊕ (List Str))))) × (List ((List (Int ⊕ (Str ⊕ (List Str)))) × (List (Int ⊕ (Str ⊕ (List Str))))))) fun x438 s437 => (M_l_stream a1 x438).bind fun r473 => (some (r473 : List Int)).bind fun x474 => (M_l_next x474 (4 : Int)).bind fun r478 => grd (dv (3 : Int) = true) ((some (((r478.1) / (3 : Int)) : Int)).bind fun x479 => (ixN (s437.2.2).length x479).bind fun m481 => ((s437.2.2)[m481]?).bind fun x482 => (ixN (s437.2.1).length x479).bind fun m485 => ((s437.2.1)[m485]?).bind fun x486 => (ixN (s437.1).length x479).bind fun m489 => ((s437.1)[m489]?).bind fun x490 => (M_l_deed x482 x486 x490 (r478.2)).bind fun r493 => if (!(r493.1)) = true then inB (some (Tm.rt false)) else (M_l_next (r493.2.2.2.2) (2 : Int)).bind fun r495 => (if (decide ((r495.1) = (0 : Int))) = true then grd (rg (2 : Int) = true) ((forL (rngL 0 (2 : Int).toNat) (() : Unit) fun x500 s499 => (atI ((s437.2.2).set m481 (r493.2.1)) x500).bind fun x502 => (atI ((s437.2.1).set m485 (r493.2.2.1)) x500).bind fun x503 => (atI ((s437.1).set m489 (r493.2.2.2.1)) x500).bind fun x504 => (M_l_looks x502 x503 x504).bind fun r505 => if (!r505) = true then inB (some (Tm.rt false)) else some (Bo.nx ())).bind (boK (fun s501 => some (Bo.nx (r495.2))) (fun r => Bo.tm (Tm.rt r)))) else some (Bo.nx (r495.2))).bind (boK (fun s497 => some (Bo.nx (((s437.1).set m489 (r493.2.2.2.1)), ((s437.2.1).set m485 (r493.2.2.1)), ((s437.2.2).set m481 (r493.2.1))))) Bo.tm))).bind (boK (fun s439 => (M_l_next (b421.2.2) (16 : Int)).bind fun r440 => ((if (decide ((r440.1) = (15 : Int))) = true then (M_l_long_holds).bind fun r443 => some ((!r443), ()) else some (false, ()))).bind fun c444 => if c444.1 = true then some false else grd (rg (2 : Int) = true) ((forL (rngL 0 (2 : Int).toNat) ((s439.1, s439.2.1, s439.2.2) : (List (List (Int ⊕ (Str ⊕ (List Str))))) × (List (List (Int ⊕ (Str ⊕ (List Str))))) × (List ((List (Int ⊕ (Str ⊕ (List Str)))) × (List (Int ⊕ (Str ⊕ (List Str))))))) fun x448 s447 => (atI (s447.2.2) x448).bind fun x454 => (atI (s447.2.1) x448).bind fun x455 => (atI (s447.1) x448).bind fun x456 => (M_l_looks x454 x455 x456).bind fun r457 => if (!r457) = true then inB (some (Tm.rt false)) else (ixN (s447.2.2).length x448).bind fun m459 => ((s447.2.2)[m459]?).bind fun x460 => (ixN (s447.2.1).length x448).bind fun m463 => ((s447.2.1)[m463]?).bind fun x464 => (ixN (s447.1).length x448).bind fun m467 => ((s447.1)[m467]?).bind fun x468 => (M_l_down_and_up x460 x464 x468).bind fun r471 => if (!(r471.1)) = true then inB (some (Tm.rt false)) else some (Bo.nx (((s447.1).set m467 (r471.2.2.2)), ((s447.2.1).set m463 (r471.2.2.1)), ((s447.2.2).set m459 (r471.2.1))))).bind (boK (fun s449 => (atI (s449.2.2) (0 : Int)).bind fun x450 => (atI (s449.2.1) (0 : Int)).bind fun x451 => (atI (s449.1) (0 : Int)).bind fun x452 => (M_l_looks x450 x451 x452).bind fun r453 => some r453) id))) id))) (s_letO (i := 5) (oLO (oL (pSm pInt (pSm pStr (I_Unlike mg))))) sc_law.nd (o_kd (E := fun (b_ : ((Unit × Unit) × ((Unit × Unit) × Unit))) => (oLO (oL (pSm pInt (pSm pStr (I_Unlike mg))))) ([[x417], [x420]])) (x_dispO (D := (oL (pSm pInt (pSm pStr (I_Unlike mg))))) (ao_cons (o_kd (E := fun (b_ : (Unit × Unit)) => (oL (pSm pInt (pSm pStr (I_Unlike mg)))) ([x417])) (x_disp (pSm pInt (pSm pStr (I_Unlike mg))) (fun _ => [_]) (a_cons (x_var (p := (pSm pInt (pSm pStr (I_Unlike mg))) x417) 2) (fun _ => a_nil)) (fun _ => rfl) (fun _ => by simp))) (fun _ _ => ao_cons (o_kd (E := fun (b_ : (Unit × Unit)) => (oL (pSm pInt (pSm pStr (I_Unlike mg)))) ([x420])) (x_disp (pSm pInt (pSm pStr (I_Unlike mg))) (fun _ => [_]) (a_cons (x_var (p := (pSm pInt (pSm pStr (I_Unlike mg))) x420) 3) (fun _ => a_nil)) (fun _ => rfl) (fun _ => by simp))) (fun _ _ => ao_nil))) (fun _ => by simp))) fun (b429 : ((Unit × Unit) × ((Unit × Unit) × Unit))) x428 v431 => s_T (T := (some ([[], []] : List (List (Int ⊕ (Str ⊕ (List Str)))))).bind fun x432 => grd (rg2 (1 : Int) (min (a1.length : Int) (63 : Int)) = true) ((forL (rngL (1 : Int) ((min (a1.length : Int) (63 : Int)) - (1 : Int)).toNat) ((x432, x428, x424) : (List (List (Int ⊕ (Str ⊕ (List Str))))) × (List (List (Int ⊕ (Str ⊕ (List Str))))) × (List ((List (Int ⊕ (Str ⊕ (List Str)))) × (List (Int ⊕ (Str ⊕ (List Str))))))) fun x438 s437 => (M_l_stream a1 x438).bind fun r473 => (some (r473 : List Int)).bind fun x474 => (M_l_next x474 (4 : Int)).bind fun r478 => grd (dv (3 : Int) = true) ((some (((r478.1) / (3 : Int)) : Int)).bind fun x479 => (ixN (s437.2.2).length x479).bind fun m481 => ((s437.2.2)[m481]?).bind fun x482 => (ixN (s437.2.1).length x479).bind fun m485 => ((s437.2.1)[m485]?).bind fun x486 => (ixN (s437.1).length x479).bind fun m489 => ((s437.1)[m489]?).bind fun x490 => (M_l_deed x482 x486 x490 (r478.2)).bind fun r493 => if (!(r493.1)) = true then inB (some (Tm.rt false)) else (M_l_next (r493.2.2.2.2) (2 : Int)).bind fun r495 => (if (decide ((r495.1) = (0 : Int))) = true then grd (rg (2 : Int) = true) ((forL (rngL 0 (2 : Int).toNat) (() : Unit) fun x500 s499 => (atI ((s437.2.2).set m481 (r493.2.1)) x500).bind fun x502 => (atI ((s437.2.1).set m485 (r493.2.2.1)) x500).bind fun x503 => (atI ((s437.1).set m489 (r493.2.2.2.1)) x500).bind fun x504 => (M_l_looks x502 x503 x504).bind fun r505 => if (!r505) = true then inB (some (Tm.rt false)) else some (Bo.nx ())).bind (boK (fun s501 => some (Bo.nx (r495.2))) (fun r => Bo.tm (Tm.rt r)))) else some (Bo.nx (r495.2))).bind (boK (fun s497 => some (Bo.nx (((s437.1).set m489 (r493.2.2.2.1)), ((s437.2.1).set m485 (r493.2.2.1)), ((s437.2.2).set m481 (r493.2.1))))) Bo.tm))).bind (boK (fun s439 => (M_l_next (b421.2.2) (16 : Int)).bind fun r440 => ((if (decide ((r440.1) = (15 : Int))) = true then (M_l_long_holds).bind fun r443 => some ((!r443), ()) else some (false, ()))).bind fun c444 => if c444.1 = true then some false else grd (rg (2 : Int) = true) ((forL (rngL 0 (2 : Int).toNat) ((s439.1, s439.2.1, s439.2.2) : (List (List (Int ⊕ (Str ⊕ (List Str))))) × (List (List (Int ⊕ (Str ⊕ (List Str))))) × (List ((List (Int ⊕ (Str ⊕ (List Str)))) × (List (Int ⊕ (Str ⊕ (List Str))))))) fun x448 s447 => (atI (s447.2.2) x448).bind fun x454 => (atI (s447.2.1) x448).bind fun x455 => (atI (s447.1) x448).bind fun x456 => (M_l_looks x454 x455 x456).bind fun r457 => if (!r457) = true then inB (some (Tm.rt false)) else (ixN (s447.2.2).length x448).bind fun m459 => ((s447.2.2)[m459]?).bind fun x460 => (ixN (s447.2.1).length x448).bind fun m463 => ((s447.2.1)[m463]?).bind fun x464 => (ixN (s447.1).length x448).bind fun m467 => ((s447.1)[m467]?).bind fun x468 => (M_l_down_and_up x460 x464 x468).bind fun r471 => if (!(r471.1)) = true then inB (some (Tm.rt false)) else some (Bo.nx (((s447.1).set m467 (r471.2.2.2)), ((s447.2.1).set m463 (r471.2.2.1)), ((s447.2.2).set m459 (r471.2.1))))).bind (boK (fun s449 => (atI (s449.2.2) (0 : Int)).bind fun x450 => (atI (s449.2.1) (0 : Int)).bind fun x451 => (atI (s449.1) (0 : Int)).bind fun x452 => (M_l_looks x450 x451 x452).bind fun r453 => some r453) id))) id))) (s_letO (i := 6) (oLO (oL (pSm pInt (pSm pStr (I_Unlike mg))))) sc_law.nd (o_kd (E := fun (b_ : (Unit × (Unit × Unit))) => (oLO (oL (pSm pInt (pSm pStr (I_Unlike mg))))) ([[], []])) (x_dispO (D := (oL (pSm pInt (pSm pStr (I_Unlike mg))))) (ao_cons (o_kd (E := fun (b_ : Unit) => (oL (pSm pInt (pSm pStr (I_Unlike mg)))) ([])) (x_nil (pSm pInt (pSm pStr (I_Unlike mg))))) (fun _ _ => ao_cons (o_kd (E := fun (b_ : Unit) => (oL (pSm pInt (pSm pStr (I_Unlike mg)))) ([])) (x_nil (pSm pInt (pSm pStr (I_Unlike mg))))) (fun _ _ => ao_nil))) (fun _ => by simp))) fun (b433 : (Unit × (Unit × Unit))) x432 v435 => s_T (T := grd (rg2 (1 : Int) (min (a1.length : Int) (63 : Int)) = true) ((forL (rngL (1 : Int) ((min (a1.length : Int) (63 : Int)) - (1 : Int)).toNat) ((x432, x428, x424) : (List (List (Int ⊕ (Str ⊕ (List Str))))) × (List (List (Int ⊕ (Str ⊕ (List Str))))) × (List ((List (Int ⊕ (Str ⊕ (List Str)))) × (List (Int ⊕ (Str ⊕ (List Str))))))) fun x438 s437 => (M_l_stream a1 x438).bind fun r473 => (some (r473 : List Int)).bind fun x474 => (M_l_next x474 (4 : Int)).bind fun r478 => grd (dv (3 : Int) = true) ((some (((r478.1) / (3 : Int)) : Int)).bind fun x479 => (ixN (s437.2.2).length x479).bind fun m481 => ((s437.2.2)[m481]?).bind fun x482 => (ixN (s437.2.1).length x479).bind fun m485 => ((s437.2.1)[m485]?).bind fun x486 => (ixN (s437.1).length x479).bind fun m489 => ((s437.1)[m489]?).bind fun x490 => (M_l_deed x482 x486 x490 (r478.2)).bind fun r493 => if (!(r493.1)) = true then inB (some (Tm.rt false)) else (M_l_next (r493.2.2.2.2) (2 : Int)).bind fun r495 => (if (decide ((r495.1) = (0 : Int))) = true then grd (rg (2 : Int) = true) ((forL (rngL 0 (2 : Int).toNat) (() : Unit) fun x500 s499 => (atI ((s437.2.2).set m481 (r493.2.1)) x500).bind fun x502 => (atI ((s437.2.1).set m485 (r493.2.2.1)) x500).bind fun x503 => (atI ((s437.1).set m489 (r493.2.2.2.1)) x500).bind fun x504 => (M_l_looks x502 x503 x504).bind fun r505 => if (!r505) = true then inB (some (Tm.rt false)) else some (Bo.nx ())).bind (boK (fun s501 => some (Bo.nx (r495.2))) (fun r => Bo.tm (Tm.rt r)))) else some (Bo.nx (r495.2))).bind (boK (fun s497 => some (Bo.nx (((s437.1).set m489 (r493.2.2.2.1)), ((s437.2.1).set m485 (r493.2.2.1)), ((s437.2.2).set m481 (r493.2.1))))) Bo.tm))).bind (boK (fun s439 => (M_l_next (b421.2.2) (16 : Int)).bind fun r440 => ((if (decide ((r440.1) = (15 : Int))) = true then (M_l_long_holds).bind fun r443 => some ((!r443), ()) else some (false, ()))).bind fun c444 => if c444.1 = true then some false else grd (rg (2 : Int) = true) ((forL (rngL 0 (2 : Int).toNat) ((s439.1, s439.2.1, s439.2.2) : (List (List (Int ⊕ (Str ⊕ (List Str))))) × (List (List (Int ⊕ (Str ⊕ (List Str))))) × (List ((List (Int ⊕ (Str ⊕ (List Str)))) × (List (Int ⊕ (Str ⊕ (List Str))))))) fun x448 s447 => (atI (s447.2.2) x448).bind fun x454 => (atI (s447.2.1) x448).bind fun x455 => (atI (s447.1) x448).bind fun x456 => (M_l_looks x454 x455 x456).bind fun r457 => if (!r457) = true then inB (some (Tm.rt false)) else (ixN (s447.2.2).length x448).bind fun m459 => ((s447.2.2)[m459]?).bind fun x460 => (ixN (s447.2.1).length x448).bind fun m463 => ((s447.2.1)[m463]?).bind fun x464 => (ixN (s447.1).length x448).bind fun m467 => ((s447.1)[m467]?).bind fun x468 => (M_l_down_and_up x460 x464 x468).bind fun r471 => if (!(r471.1)) = true then inB (some (Tm.rt false)) else some (Bo.nx (((s447.1).set m467 (r471.2.2.2)), ((s447.2.1).set m463 (r471.2.2.1)), ((s447.2.2).set m459 (r471.2.1))))).bind (boK (fun s449 => (atI (s449.2.2) (0 : Int)).bind fun x450 => (atI (s449.2.1) (0 : Int)).bind fun x451 => (atI (s449.1) (0 : Int)).bind fun x452 => (M_l_looks x450 x451 x452).bind fun r453 => some r453) id))) id))) (s_for PassesOwn.never (fun (b_ : (Unit × (Unit × Unit))) (s_ : (List (List (Int ⊕ (Str ⊕ (List Str))))) × (List (List (Int ⊕ (Str ⊕ (List Str))))) × (List ((List (Int ⊕ (Str ⊕ (List Str)))) × (List (Int ⊕ (Str ⊕ (List Str))))))) => ([some ((pS K) a1), some (pV v415), some ((pSm pInt (pSm pStr (I_Unlike mg))) x417), some ((pSm pInt (pSm pStr (I_Unlike mg))) x420), some (pV v427), some (pV v431), some (pV v435), none, none, none, none], [⟨v435, (oLO (oL (pSm pInt (pSm pStr (I_Unlike mg))))) s_.1, none⟩, ⟨v431, (oLO (oL (pSm pInt (pSm pStr (I_Unlike mg))))) s_.2.1, none⟩, ⟨v427, (oLO (O_History mg)) s_.2.2, none⟩, ⟨v415, (oL pInt) b421.2.2, none⟩])) (fun (b_ : (Unit × (Unit × Unit))) => (x432, x428, x424)) (ι := id) (R := (RF ⟨H, Mq⟩ (fun _ => []) pBl)) (i_rng2 m_range (x_int (i := 1)) (fun _ => x_kd (E := fun (b_ : (Unit × Unit)) => pInt (min (a1.length : Int) (63 : Int))) (x_min2 m_min (x_kd (E := fun (b_ : Unit) => pInt (a1.length : Int)) (x_lenS m_len (x_var (p := (pS K) a1) 0))) (fun _ => x_int (i := 63))))) (pg_name (i := 7) sc_law.nd rfl (by first | exact .inl rfl | exact .inr rfl)) (tg_name 7) (fun _ => (by exact ⟨rfl, rfl, rfl, rfl, rfl, rfl, rfl, trivial⟩)) (fun _ => List.Sublist.refl _) (fun b436 x438 s437 => s_T (T := (M_l_stream a1 x438).bind fun r473 => (some (r473 : List Int)).bind fun x474 => (M_l_next x474 (4 : Int)).bind fun r478 => grd (dv (3 : Int) = true) ((some (((r478.1) / (3 : Int)) : Int)).bind fun x479 => (ixN (s437.2.2).length x479).bind fun m481 => ((s437.2.2)[m481]?).bind fun x482 => (ixN (s437.2.1).length x479).bind fun m485 => ((s437.2.1)[m485]?).bind fun x486 => (ixN (s437.1).length x479).bind fun m489 => ((s437.1)[m489]?).bind fun x490 => (M_l_deed x482 x486 x490 (r478.2)).bind fun r493 => if (!(r493.1)) = true then inB (some (Tm.rt false)) else (M_l_next (r493.2.2.2.2) (2 : Int)).bind fun r495 => (if (decide ((r495.1) = (0 : Int))) = true then grd (rg (2 : Int) = true) ((forL (rngL 0 (2 : Int).toNat) (() : Unit) fun x500 s499 => (atI ((s437.2.2).set m481 (r493.2.1)) x500).bind fun x502 => (atI ((s437.2.1).set m485 (r493.2.2.1)) x500).bind fun x503 => (atI ((s437.1).set m489 (r493.2.2.2.1)) x500).bind fun x504 => (M_l_looks x502 x503 x504).bind fun r505 => if (!r505) = true then inB (some (Tm.rt false)) else some (Bo.nx ())).bind (boK (fun s501 => some (Bo.nx (r495.2))) (fun r => Bo.tm (Tm.rt r)))) else some (Bo.nx (r495.2))).bind (boK (fun s497 => some (Bo.nx (((s437.1).set m489 (r493.2.2.2.1)), ((s437.2.1).set m485 (r493.2.2.1)), ((s437.2.2).set m481 (r493.2.1))))) Bo.tm))) (s_letO (i := 9) (oL pInt) sc_law.nd (o_kd (E := fun (b_ : ((Unit × Unit) × (List Int))) => (oL pInt) b_.2) (x_FF_o (kk := 1) (E1 := (pS K)) (E2 := pInt) k_l_stream (hr.mono (by decide)) g_l_stream F_l_stream.kp b_l_stream (x_var (p := (pS K) a1) 0) (fun _ => x_var (p := pInt x438) 7))) fun (b475 : ((Unit × Unit) × (List Int))) x474 v477 => s_T (T := (M_l_next x474 (4 : Int)).bind fun r478 => grd (dv (3 : Int) = true) ((some (((r478.1) / (3 : Int)) : Int)).bind fun x479 => (ixN (s437.2.2).length x479).bind fun m481 => ((s437.2.2)[m481]?).bind fun x482 => (ixN (s437.2.1).length x479).bind fun m485 => ((s437.2.1)[m485]?).bind fun x486 => (ixN (s437.1).length x479).bind fun m489 => ((s437.1)[m489]?).bind fun x490 => (M_l_deed x482 x486 x490 (r478.2)).bind fun r493 => if (!(r493.1)) = true then inB (some (Tm.rt false)) else (M_l_next (r493.2.2.2.2) (2 : Int)).bind fun r495 => (if (decide ((r495.1) = (0 : Int))) = true then grd (rg (2 : Int) = true) ((forL (rngL 0 (2 : Int).toNat) (() : Unit) fun x500 s499 => (atI ((s437.2.2).set m481 (r493.2.1)) x500).bind fun x502 => (atI ((s437.2.1).set m485 (r493.2.2.1)) x500).bind fun x503 => (atI ((s437.1).set m489 (r493.2.2.2.1)) x500).bind fun x504 => (M_l_looks x502 x503 x504).bind fun r505 => if (!r505) = true then inB (some (Tm.rt false)) else some (Bo.nx ())).bind (boK (fun s501 => some (Bo.nx (r495.2))) (fun r => Bo.tm (Tm.rt r)))) else some (Bo.nx (r495.2))).bind (boK (fun s497 => some (Bo.nx (((s437.1).set m489 (r493.2.2.2.1)), ((s437.2.1).set m485 (r493.2.2.1)), ((s437.2.2).set m481 (r493.2.1))))) Bo.tm))) (s_let (i := 8) pInt sc_law.nd (x_kd (E := fun (b_ : (((Unit × Unit) × (Int × (List Int))) × Unit)) => pInt ((b_.1.2.1) / (3 : Int))) (x_fdiv (x_kd (E := fun (b_ : ((Unit × Unit) × (Int × (List Int)))) => pInt b_.2.1) (x_OF_f (kk := 1) (E1 := (oL pInt)) (E2 := pInt) (s1 := fun (_ : Unit) (_ : Unit) => x474) (v1 := v477) k_l_next (hr.mono (by decide)) g_l_next F_l_next.kp b_l_next 0 (x_var (p := pV v477) 9) (fun _ => x_int (i := 4)) (fun _ _ => rfl))) (fun _ => x_int (i := 3)))) fun (b480 : (((Unit × Unit) × (Int × (List Int))) × Unit)) x479 => s_T (T := (ixN (s437.2.2).length x479).bind fun m481 => ((s437.2.2)[m481]?).bind fun x482 => (ixN (s437.2.1).length x479).bind fun m485 => ((s437.2.1)[m485]?).bind fun x486 => (ixN (s437.1).length x479).bind fun m489 => ((s437.1)[m489]?).bind fun x490 => (M_l_deed x482 x486 x490 (b480.1.2.2)).bind fun r493 => if (!(r493.1)) = true then inB (some (Tm.rt false)) else (M_l_next (r493.2.2.2.2) (2 : Int)).bind fun r495 => (if (decide ((r495.1) = (0 : Int))) = true then grd (rg (2 : Int) = true) ((forL (rngL 0 (2 : Int).toNat) (() : Unit) fun x500 s499 => (atI ((s437.2.2).set m481 (r493.2.1)) x500).bind fun x502 => (atI ((s437.2.1).set m485 (r493.2.2.1)) x500).bind fun x503 => (atI ((s437.1).set m489 (r493.2.2.2.1)) x500).bind fun x504 => (M_l_looks x502 x503 x504).bind fun r505 => if (!r505) = true then inB (some (Tm.rt false)) else some (Bo.nx ())).bind (boK (fun s501 => some (Bo.nx (r495.2))) (fun r => Bo.tm (Tm.rt r)))) else some (Bo.nx (r495.2))).bind (boK (fun s497 => some (Bo.nx (((s437.1).set m489 (r493.2.2.2.1)), ((s437.2.1).set m485 (r493.2.2.1)), ((s437.2.2).set m481 (r493.2.1))))) Bo.tm)) (s_ifB ins_T (t_kd (c := fun (b_ : (((((Unit × Unit) × (Nat × ((List (Int ⊕ (Str ⊕ (List Str)))) × (List (Int ⊕ (Str ⊕ (List Str))))))) × V) × ((((Unit × Unit) × (Nat × (List (Int ⊕ (Str ⊕ (List Str)))))) × V) × ((((Unit × Unit) × (Nat × (List (Int ⊕ (Str ⊕ (List Str)))))) × V) × (Unit × Unit)))) × (Bool × ((List (Int ⊕ (Str ⊕ (List Str)))) × (List (Int ⊕ (Str ⊕ (List Str))))) × (List (Int ⊕ (Str ⊕ (List Str)))) × (List (Int ⊕ (Str ⊕ (List Str)))) × (List Int)))) => (!(b_.2.1))) (t_not (t_kd (c := fun (b_ : (((((Unit × Unit) × (Nat × ((List (Int ⊕ (Str ⊕ (List Str)))) × (List (Int ⊕ (Str ⊕ (List Str))))))) × V) × ((((Unit × Unit) × (Nat × (List (Int ⊕ (Str ⊕ (List Str)))))) × V) × ((((Unit × Unit) × (Nat × (List (Int ⊕ (Str ⊕ (List Str)))))) × V) × (Unit × Unit)))) × (Bool × ((List (Int ⊕ (Str ⊕ (List Str)))) × (List (Int ⊕ (Str ⊕ (List Str))))) × (List (Int ⊕ (Str ⊕ (List Str)))) × (List (Int ⊕ (Str ⊕ (List Str)))) × (List Int)))) => b_.2.1) (t_val (x_kd (E := fun (b_ : (((((Unit × Unit) × (Nat × ((List (Int ⊕ (Str ⊕ (List Str)))) × (List (Int ⊕ (Str ⊕ (List Str))))))) × V) × ((((Unit × Unit) × (Nat × (List (Int ⊕ (Str ⊕ (List Str)))))) × V) × ((((Unit × Unit) × (Nat × (List (Int ⊕ (Str ⊕ (List Str)))))) × V) × (Unit × Unit)))) × (Bool × ((List (Int ⊕ (Str ⊕ (List Str)))) × (List (Int ⊕ (Str ⊕ (List Str))))) × (List (Int ⊕ (Str ⊕ (List Str)))) × (List (Int ⊕ (Str ⊕ (List Str)))) × (List Int)))) => pBl b_.2.1) (x_N (kk := 5) (xs := fun (b : ((((Unit × Unit) × (Nat × ((List (Int ⊕ (Str ⊕ (List Str)))) × (List (Int ⊕ (Str ⊕ (List Str))))))) × V) × ((((Unit × Unit) × (Nat × (List (Int ⊕ (Str ⊕ (List Str)))))) × V) × ((((Unit × Unit) × (Nat × (List (Int ⊕ (Str ⊕ (List Str)))))) × V) × (Unit × Unit))))) => ((b.1.2, b.1.1.2.2), (b.2.1.2, b.2.1.1.2.2), (b.2.2.1.2, b.2.2.1.1.2.2), (v477, b480.1.2.2))) [none, none, none, none] _ k_l_deed (hr.mono (by decide)) g_l_deed F_l_deed.kp b_l_deed (a_cons (E1 := fun (b_ : (((Unit × Unit) × (Nat × ((List (Int ⊕ (Str ⊕ (List Str)))) × (List (Int ⊕ (Str ⊕ (List Str))))))) × V)) => pV b_.2) (Es := fun (_ : (((Unit × Unit) × (Nat × ((List (Int ⊕ (Str ⊕ (List Str)))) × (List (Int ⊕ (Str ⊕ (List Str))))))) × V)) (b_ : ((((Unit × Unit) × (Nat × (List (Int ⊕ (Str ⊕ (List Str)))))) × V) × ((((Unit × Unit) × (Nat × (List (Int ⊕ (Str ⊕ (List Str)))))) × V) × (Unit × Unit)))) => ([pV b_.1.2, pV b_.2.1.2, pV v477] : List Pd)) (x_path (k := fun (b_ : ((Unit × Unit) × (Nat × ((List (Int ⊕ (Str ⊕ (List Str)))) × (List (Int ⊕ (Str ⊕ (List Str)))))))) => (ixN (s437.2.1).length x479).bind fun m485 => ((s437.2.1)[m485]?).bind fun x486 => (ixN (s437.1).length x479).bind fun m489 => ((s437.1)[m489]?).bind fun x490 => (M_l_deed b_.2.2 x486 x490 (b480.1.2.2)).bind fun r493 => if (!(r493.1)) = true then inB (some (Tm.rt false)) else (M_l_next (r493.2.2.2.2) (2 : Int)).bind fun r495 => (if (decide ((r495.1) = (0 : Int))) = true then grd (rg (2 : Int) = true) ((forL (rngL 0 (2 : Int).toNat) (() : Unit) fun x500 s499 => (atI ((s437.2.2).set b_.2.1 (r493.2.1)) x500).bind fun x502 => (atI ((s437.2.1).set m485 (r493.2.2.1)) x500).bind fun x503 => (atI ((s437.1).set m489 (r493.2.2.2.1)) x500).bind fun x504 => (M_l_looks x502 x503 x504).bind fun r505 => if (!r505) = true then inB (some (Tm.rt false)) else some (Bo.nx ())).bind (boK (fun s501 => some (Bo.nx (r495.2))) (fun r => Bo.tm (Tm.rt r)))) else some (Bo.nx (r495.2))).bind (boK (fun s497 => some (Bo.nx (((s437.1).set m489 (r493.2.2.2.1)), ((s437.2.1).set m485 (r493.2.2.1)), ((s437.2.2).set b_.2.1 (r493.2.1))))) Bo.tm)) 3 (f_ix (D := (O_History mg)) 3 (f_var (D := (oLO (O_History mg))) (x_var (p := pV v427) 4)) (fun _ => x_var (p := pInt x479) 8))) (fun z0_ => a_cons (E1 := fun (b_ : (((Unit × Unit) × (Nat × (List (Int ⊕ (Str ⊕ (List Str)))))) × V)) => pV b_.2) (Es := fun (_ : (((Unit × Unit) × (Nat × (List (Int ⊕ (Str ⊕ (List Str)))))) × V)) (b_ : ((((Unit × Unit) × (Nat × (List (Int ⊕ (Str ⊕ (List Str)))))) × V) × (Unit × Unit))) => ([pV b_.1.2, pV v477] : List Pd)) (x_T (x_path (k := fun (b_ : ((Unit × Unit) × (Nat × (List (Int ⊕ (Str ⊕ (List Str))))))) => (ixN (s437.1).length x479).bind fun m489 => ((s437.1)[m489]?).bind fun x490 => (M_l_deed z0_.1.2.2 b_.2.2 x490 (b480.1.2.2)).bind fun r493 => if (!(r493.1)) = true then inB (some (Tm.rt false)) else (M_l_next (r493.2.2.2.2) (2 : Int)).bind fun r495 => (if (decide ((r495.1) = (0 : Int))) = true then grd (rg (2 : Int) = true) ((forL (rngL 0 (2 : Int).toNat) (() : Unit) fun x500 s499 => (atI ((s437.2.2).set z0_.1.2.1 (r493.2.1)) x500).bind fun x502 => (atI ((s437.2.1).set b_.2.1 (r493.2.2.1)) x500).bind fun x503 => (atI ((s437.1).set m489 (r493.2.2.2.1)) x500).bind fun x504 => (M_l_looks x502 x503 x504).bind fun r505 => if (!r505) = true then inB (some (Tm.rt false)) else some (Bo.nx ())).bind (boK (fun s501 => some (Bo.nx (r495.2))) (fun r => Bo.tm (Tm.rt r)))) else some (Bo.nx (r495.2))).bind (boK (fun s497 => some (Bo.nx (((s437.1).set m489 (r493.2.2.2.1)), ((s437.2.1).set b_.2.1 (r493.2.2.1)), ((s437.2.2).set z0_.1.2.1 (r493.2.1))))) Bo.tm)) 3 (f_ix (D := (oL (pSm pInt (pSm pStr (I_Unlike mg))))) 3 (f_var (D := (oLO (oL (pSm pInt (pSm pStr (I_Unlike mg)))))) (x_var (p := pV v431) 5)) (fun _ => x_var (p := pInt x479) 8))) (by rfl)) (fun z1_ => a_cons (E1 := fun (b_ : (((Unit × Unit) × (Nat × (List (Int ⊕ (Str ⊕ (List Str)))))) × V)) => pV b_.2) (Es := fun (_ : (((Unit × Unit) × (Nat × (List (Int ⊕ (Str ⊕ (List Str)))))) × V)) (b_ : (Unit × Unit)) => ([pV v477] : List Pd)) (x_T (x_path (k := fun (b_ : ((Unit × Unit) × (Nat × (List (Int ⊕ (Str ⊕ (List Str))))))) => (M_l_deed z0_.1.2.2 z1_.1.2.2 b_.2.2 (b480.1.2.2)).bind fun r493 => if (!(r493.1)) = true then inB (some (Tm.rt false)) else (M_l_next (r493.2.2.2.2) (2 : Int)).bind fun r495 => (if (decide ((r495.1) = (0 : Int))) = true then grd (rg (2 : Int) = true) ((forL (rngL 0 (2 : Int).toNat) (() : Unit) fun x500 s499 => (atI ((s437.2.2).set z0_.1.2.1 (r493.2.1)) x500).bind fun x502 => (atI ((s437.2.1).set z1_.1.2.1 (r493.2.2.1)) x500).bind fun x503 => (atI ((s437.1).set b_.2.1 (r493.2.2.2.1)) x500).bind fun x504 => (M_l_looks x502 x503 x504).bind fun r505 => if (!r505) = true then inB (some (Tm.rt false)) else some (Bo.nx ())).bind (boK (fun s501 => some (Bo.nx (r495.2))) (fun r => Bo.tm (Tm.rt r)))) else some (Bo.nx (r495.2))).bind (boK (fun s497 => some (Bo.nx (((s437.1).set b_.2.1 (r493.2.2.2.1)), ((s437.2.1).set z1_.1.2.1 (r493.2.2.1)), ((s437.2.2).set z0_.1.2.1 (r493.2.1))))) Bo.tm)) 3 (f_ix (D := (oL (pSm pInt (pSm pStr (I_Unlike mg))))) 3 (f_var (D := (oLO (oL (pSm pInt (pSm pStr (I_Unlike mg)))))) (x_var (p := pV v435) 6)) (fun _ => x_var (p := pInt x479) 8))) (by rfl)) (fun z2_ => a_cons (E1 := fun (b_ : Unit) => pV v477) (Es := fun (_ : Unit) (b_ : Unit) => ([] : List Pd)) (y_var (p := pV v477) 9) (fun z3_ => a_nilK))))) (fun _ _ _ ok => ((((ok.out (j := 3) rfl).out (j := 1) rfl).out (j := 3) rfl).out (j := 5) rfl)) (fun _ _ _ _ ok => (((((((ok.back (j := 5) rfl).back (j := 3) rfl).back (j := 1) rfl).back (j := 3) rfl).join (j := 3) (D := (oL (pSm pInt (pSm pStr (I_Unlike mg))))) rfl).join (j := 3) (D := (oL (pSm pInt (pSm pStr (I_Unlike mg))))) rfl).join (j := 3) (D := (O_History mg)) rfl)) (hn := fun _ _ => ⟨rfl, rfl, rfl, rfl, trivial⟩))))))) (fun (b494 : (((((Unit × Unit) × (Nat × ((List (Int ⊕ (Str ⊕ (List Str)))) × (List (Int ⊕ (Str ⊕ (List Str))))))) × V) × ((((Unit × Unit) × (Nat × (List (Int ⊕ (Str ⊕ (List Str)))))) × V) × ((((Unit × Unit) × (Nat × (List (Int ⊕ (Str ⊕ (List Str)))))) × V) × (Unit × Unit)))) × (Bool × ((List (Int ⊕ (Str ⊕ (List Str)))) × (List (Int ⊕ (Str ⊕ (List Str))))) × (List (Int ⊕ (Str ⊕ (List Str)))) × (List (Int ⊕ (Str ⊕ (List Str)))) × (List Int)))) => s_T (T := some (Tm.rt false)) (s_ret (P := (fun _ => [])) (Rp := pBl) (ι := Tm.rt) (rv := fun (b : Unit) => false) (fun _ _ _ h => by exact h) x_bl (fun _ => .cons _ (.cons _ (.cons _ (.cons _ (.cons _ (.slnil)))))))) fun (b494 : (((((Unit × Unit) × (Nat × ((List (Int ⊕ (Str ⊕ (List Str)))) × (List (Int ⊕ (Str ⊕ (List Str))))))) × V) × ((((Unit × Unit) × (Nat × (List (Int ⊕ (Str ⊕ (List Str)))))) × V) × ((((Unit × Unit) × (Nat × (List (Int ⊕ (Str ⊕ (List Str)))))) × V) × (Unit × Unit)))) × (Bool × ((List (Int ⊕ (Str ⊕ (List Str)))) × (List (Int ⊕ (Str ⊕ (List Str))))) × (List (Int ⊕ (Str ⊕ (List Str)))) × (List (Int ⊕ (Str ⊕ (List Str)))) × (List Int)))) => s_T (T := (M_l_next (b494.2.2.2.2.2) (2 : Int)).bind fun r495 => (if (decide ((r495.1) = (0 : Int))) = true then grd (rg (2 : Int) = true) ((forL (rngL 0 (2 : Int).toNat) (() : Unit) fun x500 s499 => (atI ((s437.2.2).set b494.1.1.1.2.1 (b494.2.2.1)) x500).bind fun x502 => (atI ((s437.2.1).set b494.1.2.1.1.2.1 (b494.2.2.2.1)) x500).bind fun x503 => (atI ((s437.1).set b494.1.2.2.1.1.2.1 (b494.2.2.2.2.1)) x500).bind fun x504 => (M_l_looks x502 x503 x504).bind fun r505 => if (!r505) = true then inB (some (Tm.rt false)) else some (Bo.nx ())).bind (boK (fun s501 => some (Bo.nx (r495.2))) (fun r => Bo.tm (Tm.rt r)))) else some (Bo.nx (r495.2))).bind (boK (fun s497 => some (Bo.nx (((s437.1).set b494.1.2.2.1.1.2.1 (b494.2.2.2.2.1)), ((s437.2.1).set b494.1.2.1.1.2.1 (b494.2.2.2.1)), ((s437.2.2).set b494.1.1.1.2.1 (b494.2.2.1))))) Bo.tm)) (s_ifM (C := fun s_ : (List Int) => ([some ((pS K) a1), some (pV v415), some ((pSm pInt (pSm pStr (I_Unlike mg))) x417), some ((pSm pInt (pSm pStr (I_Unlike mg))) x420), some (pV v427), some (pV v431), some (pV v435), some (pInt x438), some (pInt x479), some (pV v477), none], [⟨v477, (oL pInt) s_, none⟩, ⟨v435, (oLO (oL (pSm pInt (pSm pStr (I_Unlike mg))))) ((s437.1).set b494.1.2.2.1.1.2.1 (b494.2.2.2.2.1)), none⟩, ⟨v431, (oLO (oL (pSm pInt (pSm pStr (I_Unlike mg))))) ((s437.2.1).set b494.1.2.1.1.2.1 (b494.2.2.2.1)), none⟩, ⟨v427, (oLO (O_History mg)) ((s437.2.2).set b494.1.1.1.2.1 (b494.2.2.1)), none⟩, ⟨v415, (oL pInt) b421.2.2, none⟩])) (ι := Bo.tm) ins_T (fun _ _ _ h => by exact h) (t_kd (c := fun (b_ : (((Unit × Unit) × (Int × (List Int))) × Unit)) => (decide ((b_.1.2.1) = (0 : Int)))) (t_eqI (x_kd (E := fun (b_ : ((Unit × Unit) × (Int × (List Int)))) => pInt b_.2.1) (x_OF_f (kk := 1) (E1 := (oL pInt)) (E2 := pInt) (s1 := fun (_ : Unit) (_ : Unit) => b494.2.2.2.2.2) (v1 := v477) k_l_next (hr.mono (by decide)) g_l_next F_l_next.kp b_l_next 0 (x_var (p := pV v477) 9) (fun _ => x_int (i := 2)) (fun _ _ => rfl))) (fun _ => x_int (i := 0)))) (fun (b496 : (((Unit × Unit) × (Int × (List Int))) × Unit)) => s_T (T := grd (rg (2 : Int) = true) ((forL (rngL 0 (2 : Int).toNat) (() : Unit) fun x500 s499 => (atI ((s437.2.2).set b494.1.1.1.2.1 (b494.2.2.1)) x500).bind fun x502 => (atI ((s437.2.1).set b494.1.2.1.1.2.1 (b494.2.2.2.1)) x500).bind fun x503 => (atI ((s437.1).set b494.1.2.2.1.1.2.1 (b494.2.2.2.2.1)) x500).bind fun x504 => (M_l_looks x502 x503 x504).bind fun r505 => if (!r505) = true then inB (some (Tm.rt false)) else some (Bo.nx ())).bind (boK (fun s501 => some (Bo.nx (b496.1.2.2))) (fun r => Bo.tm (Tm.rt r))))) (s_for PassesOwn.never (fun (b_ : Unit) (s_ : Unit) => ([some ((pS K) a1), some (pV v415), some ((pSm pInt (pSm pStr (I_Unlike mg))) x417), some ((pSm pInt (pSm pStr (I_Unlike mg))) x420), some (pV v427), some (pV v431), some (pV v435), some (pInt x438), some (pInt x479), some (pV v477), none], [⟨v477, (oL pInt) b496.1.2.2, none⟩, ⟨v435, (oLO (oL (pSm pInt (pSm pStr (I_Unlike mg))))) ((s437.1).set b494.1.2.2.1.1.2.1 (b494.2.2.2.2.1)), none⟩, ⟨v431, (oLO (oL (pSm pInt (pSm pStr (I_Unlike mg))))) ((s437.2.1).set b494.1.2.1.1.2.1 (b494.2.2.2.1)), none⟩, ⟨v427, (oLO (O_History mg)) ((s437.2.2).set b494.1.1.1.2.1 (b494.2.2.1)), none⟩, ⟨v415, (oL pInt) b421.2.2, none⟩])) (fun (b_ : Unit) => ()) (ι := (fun r => Bo.tm (Tm.rt r))) (R := (RF ⟨H, Mq⟩ (fun _ => []) pBl)) (i_rng1 m_range (x_int (i := 2))) (pg_name (i := 10) sc_law.nd rfl (by first | exact .inl rfl | exact .inr rfl)) (tg_name 10) (fun _ => (by exact ⟨rfl, rfl, rfl, rfl, rfl, rfl, rfl, rfl, rfl, rfl, trivial⟩)) (fun _ => List.Sublist.refl _) (fun b498 x500 s499 => s_T (T := (atI ((s437.2.2).set b494.1.1.1.2.1 (b494.2.2.1)) x500).bind fun x502 => (atI ((s437.2.1).set b494.1.2.1.1.2.1 (b494.2.2.2.1)) x500).bind fun x503 => (atI ((s437.1).set b494.1.2.2.1.1.2.1 (b494.2.2.2.2.1)) x500).bind fun x504 => (M_l_looks x502 x503 x504).bind fun r505 => if (!r505) = true then inB (some (Tm.rt false)) else some (Bo.nx ())) (s_ifB ins_T (t_kd (c := fun (b_ : ((((Unit × Unit) × ((List (Int ⊕ (Str ⊕ (List Str)))) × (List (Int ⊕ (Str ⊕ (List Str)))))) × (((Unit × Unit) × (List (Int ⊕ (Str ⊕ (List Str))))) × ((Unit × Unit) × (List (Int ⊕ (Str ⊕ (List Str))))))) × Bool)) => (!b_.2)) (t_not (t_kd (c := fun (b_ : ((((Unit × Unit) × ((List (Int ⊕ (Str ⊕ (List Str)))) × (List (Int ⊕ (Str ⊕ (List Str)))))) × (((Unit × Unit) × (List (Int ⊕ (Str ⊕ (List Str))))) × ((Unit × Unit) × (List (Int ⊕ (Str ⊕ (List Str))))))) × Bool)) => b_.2) (t_lockG (d := (oLO (oL (pSm pInt (pSm pStr (I_Unlike mg))))) ((s437.1).set b494.1.2.2.1.1.2.1 (b494.2.2.2.2.1))) 1 6 (by exact t_dl (t_lockG (d := (oLO (oL (pSm pInt (pSm pStr (I_Unlike mg))))) ((s437.2.1).set b494.1.2.1.1.2.1 (b494.2.2.2.1))) 1 5 (by exact t_dl (t_lockG (d := (oLO (O_History mg)) ((s437.2.2).set b494.1.1.1.2.1 (b494.2.2.1))) 1 4 (by exact t_dl (t_val (x_kd (E := fun (b_ : ((((Unit × Unit) × ((List (Int ⊕ (Str ⊕ (List Str)))) × (List (Int ⊕ (Str ⊕ (List Str)))))) × (((Unit × Unit) × (List (Int ⊕ (Str ⊕ (List Str))))) × ((Unit × Unit) × (List (Int ⊕ (Str ⊕ (List Str))))))) × Bool)) => pBl b_.2) (x_FFF_f (kk := 3) (E1 := (I_History mg)) (E2 := (pL (pSm pInt (pSm pStr (I_Unlike mg))))) (E3 := (pL (pSm pInt (pSm pStr (I_Unlike mg))))) k_l_looks (hr.mono (by decide)) g_l_looks F_l_looks.kp b_l_looks (x_kd (E := fun (b_ : ((Unit × Unit) × ((List (Int ⊕ (Str ⊕ (List Str)))) × (List (Int ⊕ (Str ⊕ (List Str))))))) => (I_History mg) b_.2) (x_ixL (Ee := (I_History mg)) (x_var (p := (pL (I_History mg)) ((s437.2.2).set b494.1.1.1.2.1 (b494.2.2.1))) 4) (fun _ => x_var (p := pInt x500) 10) (fun _ _ => rdF))) (fun _ => x_kd (E := fun (b_ : ((Unit × Unit) × (List (Int ⊕ (Str ⊕ (List Str)))))) => (pL (pSm pInt (pSm pStr (I_Unlike mg)))) b_.2) (x_ixL (Ee := (pL (pSm pInt (pSm pStr (I_Unlike mg))))) (x_var (p := (pL (pL (pSm pInt (pSm pStr (I_Unlike mg))))) ((s437.2.1).set b494.1.2.1.1.2.1 (b494.2.2.2.1))) 5) (fun _ => x_var (p := pInt x500) 10) (fun _ _ => rdF))) (fun _ _ => x_kd (E := fun (b_ : ((Unit × Unit) × (List (Int ⊕ (Str ⊕ (List Str)))))) => (pL (pSm pInt (pSm pStr (I_Unlike mg)))) b_.2) (x_ixL (Ee := (pL (pSm pInt (pSm pStr (I_Unlike mg))))) (x_var (p := (pL (pL (pSm pInt (pSm pStr (I_Unlike mg))))) ((s437.1).set b494.1.2.2.1.1.2.1 (b494.2.2.2.2.1))) 6) (fun _ => x_var (p := pInt x500) 10) (fun _ _ => rdF))))))))))))))) (fun (b506 : ((((Unit × Unit) × ((List (Int ⊕ (Str ⊕ (List Str)))) × (List (Int ⊕ (Str ⊕ (List Str)))))) × (((Unit × Unit) × (List (Int ⊕ (Str ⊕ (List Str))))) × ((Unit × Unit) × (List (Int ⊕ (Str ⊕ (List Str))))))) × Bool)) => s_T (T := some (Tm.rt false)) (s_ret (P := (fun _ => [])) (Rp := pBl) (ι := Tm.rt) (rv := fun (b : Unit) => false) (fun _ _ _ h => by exact h) x_bl (fun _ => .cons _ (.cons _ (.cons _ (.cons _ (.cons _ (.slnil)))))))) fun (b506 : ((((Unit × Unit) × ((List (Int ⊕ (Str ⊕ (List Str)))) × (List (Int ⊕ (Str ⊕ (List Str)))))) × (((Unit × Unit) × (List (Int ⊕ (Str ⊕ (List Str))))) × ((Unit × Unit) × (List (Int ⊕ (Str ⊕ (List Str))))))) × Bool)) => s_endB () (by exact ⟨rfl, rfl, rfl, rfl, rfl, rfl, rfl, rfl, rfl, rfl, trivial⟩) (List.Sublist.refl _))) (fun b498 s501 => s_endB b496.1.2.2 (by exact ⟨rfl, rfl, rfl, rfl, rfl, rfl, rfl, rfl, rfl, rfl, trivial⟩) (List.Sublist.refl _)) (fun _ _ _ h => by exact h))) (fun (b496 : (((Unit × Unit) × (Int × (List Int))) × Unit)) => s_endB b496.1.2.2 (by exact ⟨rfl, rfl, rfl, rfl, rfl, rfl, rfl, rfl, rfl, rfl, trivial⟩) (List.Sublist.refl _)) fun (b496 : (((Unit × Unit) × (Int × (List Int))) × Unit)) s497 => s_endB (((s437.1).set b494.1.2.2.1.1.2.1 (b494.2.2.2.2.1)), ((s437.2.1).set b494.1.2.1.1.2.1 (b494.2.2.2.1)), ((s437.2.2).set b494.1.1.1.2.1 (b494.2.2.1))) (by exact ⟨rfl, rfl, rfl, rfl, rfl, rfl, rfl, trivial⟩) (.cons _ (.cons₂ _ (.cons₂ _ (.cons₂ _ (.cons₂ _ (.slnil))))))))))) (fun b436 s439 => s_T (T := (M_l_next (b421.2.2) (16 : Int)).bind fun r440 => ((if (decide ((r440.1) = (15 : Int))) = true then (M_l_long_holds).bind fun r443 => some ((!r443), ()) else some (false, ()))).bind fun c444 => if c444.1 = true then some false else grd (rg (2 : Int) = true) ((forL (rngL 0 (2 : Int).toNat) ((s439.1, s439.2.1, s439.2.2) : (List (List (Int ⊕ (Str ⊕ (List Str))))) × (List (List (Int ⊕ (Str ⊕ (List Str))))) × (List ((List (Int ⊕ (Str ⊕ (List Str)))) × (List (Int ⊕ (Str ⊕ (List Str))))))) fun x448 s447 => (atI (s447.2.2) x448).bind fun x454 => (atI (s447.2.1) x448).bind fun x455 => (atI (s447.1) x448).bind fun x456 => (M_l_looks x454 x455 x456).bind fun r457 => if (!r457) = true then inB (some (Tm.rt false)) else (ixN (s447.2.2).length x448).bind fun m459 => ((s447.2.2)[m459]?).bind fun x460 => (ixN (s447.2.1).length x448).bind fun m463 => ((s447.2.1)[m463]?).bind fun x464 => (ixN (s447.1).length x448).bind fun m467 => ((s447.1)[m467]?).bind fun x468 => (M_l_down_and_up x460 x464 x468).bind fun r471 => if (!(r471.1)) = true then inB (some (Tm.rt false)) else some (Bo.nx (((s447.1).set m467 (r471.2.2.2)), ((s447.2.1).set m463 (r471.2.2.1)), ((s447.2.2).set m459 (r471.2.1))))).bind (boK (fun s449 => (atI (s449.2.2) (0 : Int)).bind fun x450 => (atI (s449.2.1) (0 : Int)).bind fun x451 => (atI (s449.1) (0 : Int)).bind fun x452 => (M_l_looks x450 x451 x452).bind fun r453 => some r453) id))) (s_ifT (ins_F _) (t_kd (c := fun (b_ : ((((Unit × Unit) × (Int × (List Int))) × Unit) × (Bool × Unit))) => b_.2.1) (PW.pt (w_andM (ΔS := fun (b_ : (((Unit × Unit) × (Int × (List Int))) × Unit)) (s_ : Unit) => [⟨v435, (oLO (oL (pSm pInt (pSm pStr (I_Unlike mg))))) s439.1, none⟩, ⟨v431, (oLO (oL (pSm pInt (pSm pStr (I_Unlike mg))))) s439.2.1, none⟩, ⟨v427, (oLO (O_History mg)) s439.2.2, none⟩, ⟨v415, (oL pInt) b_.1.2.2, none⟩]) (s1 := fun (b_ : (((Unit × Unit) × (Int × (List Int))) × Unit)) => ()) (s2 := fun (b_ : (((Unit × Unit) × (Int × (List Int))) × Unit)) (c_ : Bool) => ()) (t_kd (c := fun (b_ : (((Unit × Unit) × (Int × (List Int))) × Unit)) => (decide ((b_.1.2.1) = (15 : Int)))) (t_eqI (x_kd (E := fun (b_ : ((Unit × Unit) × (Int × (List Int)))) => pInt b_.2.1) (x_OF_f (kk := 1) (E1 := (oL pInt)) (E2 := pInt) (s1 := fun (_ : Unit) (_ : Unit) => b421.2.2) (v1 := v415) k_l_next (hr.mono (by decide)) g_l_next F_l_next.kp b_l_next 3 (x_var (p := pV v415) 1) (fun _ => x_int (i := 16)) (fun _ _ => rfl))) (fun _ => x_int (i := 15)))) (fun (b442 : (((Unit × Unit) × (Int × (List Int))) × Unit)) => w_and1 (t_kd (c := fun (b_ : Bool) => (!b_)) (t_not (t_kd (c := fun (b_ : Bool) => b_) (t_val (x_kd (E := fun (b_ : Bool) => pBl b_) (x__f (kk := 3) k_l_long_holds (hr.mono (by decide)) g_l_long_holds F_l_long_holds.kp b_l_long_holds))))))) (fun _ => rfl) (fun _ _ => rfl)))) (fun (b445 : ((((Unit × Unit) × (Int × (List Int))) × Unit) × (Bool × Unit))) => s_T (T := some false) (s_ret (P := (fun _ => [])) (Rp := pBl) (ι := id) (rv := fun (b : Unit) => false) (fun _ _ _ h => by exact h) x_bl (fun _ => .cons _ (.cons _ (.cons _ (.cons _ (.slnil))))))) fun (b445 : ((((Unit × Unit) × (Int × (List Int))) × Unit) × (Bool × Unit))) => s_T (T := grd (rg (2 : Int) = true) ((forL (rngL 0 (2 : Int).toNat) ((s439.1, s439.2.1, s439.2.2) : (List (List (Int ⊕ (Str ⊕ (List Str))))) × (List (List (Int ⊕ (Str ⊕ (List Str))))) × (List ((List (Int ⊕ (Str ⊕ (List Str)))) × (List (Int ⊕ (Str ⊕ (List Str))))))) fun x448 s447 => (atI (s447.2.2) x448).bind fun x454 => (atI (s447.2.1) x448).bind fun x455 => (atI (s447.1) x448).bind fun x456 => (M_l_looks x454 x455 x456).bind fun r457 => if (!r457) = true then inB (some (Tm.rt false)) else (ixN (s447.2.2).length x448).bind fun m459 => ((s447.2.2)[m459]?).bind fun x460 => (ixN (s447.2.1).length x448).bind fun m463 => ((s447.2.1)[m463]?).bind fun x464 => (ixN (s447.1).length x448).bind fun m467 => ((s447.1)[m467]?).bind fun x468 => (M_l_down_and_up x460 x464 x468).bind fun r471 => if (!(r471.1)) = true then inB (some (Tm.rt false)) else some (Bo.nx (((s447.1).set m467 (r471.2.2.2)), ((s447.2.1).set m463 (r471.2.2.1)), ((s447.2.2).set m459 (r471.2.1))))).bind (boK (fun s449 => (atI (s449.2.2) (0 : Int)).bind fun x450 => (atI (s449.2.1) (0 : Int)).bind fun x451 => (atI (s449.1) (0 : Int)).bind fun x452 => (M_l_looks x450 x451 x452).bind fun r453 => some r453) id))) (s_for PassesOwn.never (fun (b_ : Unit) (s_ : (List (List (Int ⊕ (Str ⊕ (List Str))))) × (List (List (Int ⊕ (Str ⊕ (List Str))))) × (List ((List (Int ⊕ (Str ⊕ (List Str)))) × (List (Int ⊕ (Str ⊕ (List Str))))))) => ([some ((pS K) a1), some (pV v415), some ((pSm pInt (pSm pStr (I_Unlike mg))) x417), some ((pSm pInt (pSm pStr (I_Unlike mg))) x420), some (pV v427), some (pV v431), some (pV v435), none, none, none, none], [⟨v435, (oLO (oL (pSm pInt (pSm pStr (I_Unlike mg))))) s_.1, none⟩, ⟨v431, (oLO (oL (pSm pInt (pSm pStr (I_Unlike mg))))) s_.2.1, none⟩, ⟨v427, (oLO (O_History mg)) s_.2.2, none⟩, ⟨v415, (oL pInt) b445.1.1.2.2, none⟩])) (fun (b_ : Unit) => (s439.1, s439.2.1, s439.2.2)) (ι := id) (R := (RF ⟨H, Mq⟩ (fun _ => []) pBl)) (i_rng1 m_range (x_int (i := 2))) (pg_name (i := 8) sc_law.nd rfl (by first | exact .inl rfl | exact .inr rfl)) (tg_name 8) (fun _ => (by exact ⟨rfl, rfl, rfl, rfl, rfl, rfl, rfl, trivial⟩)) (fun _ => List.Sublist.refl _) (fun b446 x448 s447 => s_T (T := (atI (s447.2.2) x448).bind fun x454 => (atI (s447.2.1) x448).bind fun x455 => (atI (s447.1) x448).bind fun x456 => (M_l_looks x454 x455 x456).bind fun r457 => if (!r457) = true then inB (some (Tm.rt false)) else (ixN (s447.2.2).length x448).bind fun m459 => ((s447.2.2)[m459]?).bind fun x460 => (ixN (s447.2.1).length x448).bind fun m463 => ((s447.2.1)[m463]?).bind fun x464 => (ixN (s447.1).length x448).bind fun m467 => ((s447.1)[m467]?).bind fun x468 => (M_l_down_and_up x460 x464 x468).bind fun r471 => if (!(r471.1)) = true then inB (some (Tm.rt false)) else some (Bo.nx (((s447.1).set m467 (r471.2.2.2)), ((s447.2.1).set m463 (r471.2.2.1)), ((s447.2.2).set m459 (r471.2.1))))) (s_ifB ins_T (t_kd (c := fun (b_ : ((((Unit × Unit) × ((List (Int ⊕ (Str ⊕ (List Str)))) × (List (Int ⊕ (Str ⊕ (List Str)))))) × (((Unit × Unit) × (List (Int ⊕ (Str ⊕ (List Str))))) × ((Unit × Unit) × (List (Int ⊕ (Str ⊕ (List Str))))))) × Bool)) => (!b_.2)) (t_not (t_kd (c := fun (b_ : ((((Unit × Unit) × ((List (Int ⊕ (Str ⊕ (List Str)))) × (List (Int ⊕ (Str ⊕ (List Str)))))) × (((Unit × Unit) × (List (Int ⊕ (Str ⊕ (List Str))))) × ((Unit × Unit) × (List (Int ⊕ (Str ⊕ (List Str))))))) × Bool)) => b_.2) (t_lockG (d := (oLO (oL (pSm pInt (pSm pStr (I_Unlike mg))))) s447.1) 0 6 (by exact t_dl (t_lockG (d := (oLO (oL (pSm pInt (pSm pStr (I_Unlike mg))))) s447.2.1) 0 5 (by exact t_dl (t_lockG (d := (oLO (O_History mg)) s447.2.2) 0 4 (by exact t_dl (t_val (x_kd (E := fun (b_ : ((((Unit × Unit) × ((List (Int ⊕ (Str ⊕ (List Str)))) × (List (Int ⊕ (Str ⊕ (List Str)))))) × (((Unit × Unit) × (List (Int ⊕ (Str ⊕ (List Str))))) × ((Unit × Unit) × (List (Int ⊕ (Str ⊕ (List Str))))))) × Bool)) => pBl b_.2) (x_FFF_f (kk := 3) (E1 := (I_History mg)) (E2 := (pL (pSm pInt (pSm pStr (I_Unlike mg))))) (E3 := (pL (pSm pInt (pSm pStr (I_Unlike mg))))) k_l_looks (hr.mono (by decide)) g_l_looks F_l_looks.kp b_l_looks (x_kd (E := fun (b_ : ((Unit × Unit) × ((List (Int ⊕ (Str ⊕ (List Str)))) × (List (Int ⊕ (Str ⊕ (List Str))))))) => (I_History mg) b_.2) (x_ixL (Ee := (I_History mg)) (x_var (p := (pL (I_History mg)) s447.2.2) 4) (fun _ => x_var (p := pInt x448) 8) (fun _ _ => rdF))) (fun _ => x_kd (E := fun (b_ : ((Unit × Unit) × (List (Int ⊕ (Str ⊕ (List Str)))))) => (pL (pSm pInt (pSm pStr (I_Unlike mg)))) b_.2) (x_ixL (Ee := (pL (pSm pInt (pSm pStr (I_Unlike mg))))) (x_var (p := (pL (pL (pSm pInt (pSm pStr (I_Unlike mg))))) s447.2.1) 5) (fun _ => x_var (p := pInt x448) 8) (fun _ _ => rdF))) (fun _ _ => x_kd (E := fun (b_ : ((Unit × Unit) × (List (Int ⊕ (Str ⊕ (List Str)))))) => (pL (pSm pInt (pSm pStr (I_Unlike mg)))) b_.2) (x_ixL (Ee := (pL (pSm pInt (pSm pStr (I_Unlike mg))))) (x_var (p := (pL (pL (pSm pInt (pSm pStr (I_Unlike mg))))) s447.1) 6) (fun _ => x_var (p := pInt x448) 8) (fun _ _ => rdF))))))))))))))) (fun (b458 : ((((Unit × Unit) × ((List (Int ⊕ (Str ⊕ (List Str)))) × (List (Int ⊕ (Str ⊕ (List Str)))))) × (((Unit × Unit) × (List (Int ⊕ (Str ⊕ (List Str))))) × ((Unit × Unit) × (List (Int ⊕ (Str ⊕ (List Str))))))) × Bool)) => s_T (T := some (Tm.rt false)) (s_ret (P := (fun _ => [])) (Rp := pBl) (ι := Tm.rt) (rv := fun (b : Unit) => false) (fun _ _ _ h => by exact h) x_bl (fun _ => .cons _ (.cons _ (.cons _ (.cons _ (.slnil))))))) fun (b458 : ((((Unit × Unit) × ((List (Int ⊕ (Str ⊕ (List Str)))) × (List (Int ⊕ (Str ⊕ (List Str)))))) × (((Unit × Unit) × (List (Int ⊕ (Str ⊕ (List Str))))) × ((Unit × Unit) × (List (Int ⊕ (Str ⊕ (List Str))))))) × Bool)) => s_T (T := (ixN (s447.2.2).length x448).bind fun m459 => ((s447.2.2)[m459]?).bind fun x460 => (ixN (s447.2.1).length x448).bind fun m463 => ((s447.2.1)[m463]?).bind fun x464 => (ixN (s447.1).length x448).bind fun m467 => ((s447.1)[m467]?).bind fun x468 => (M_l_down_and_up x460 x464 x468).bind fun r471 => if (!(r471.1)) = true then inB (some (Tm.rt false)) else some (Bo.nx (((s447.1).set m467 (r471.2.2.2)), ((s447.2.1).set m463 (r471.2.2.1)), ((s447.2.2).set m459 (r471.2.1))))) (s_ifB ins_T (t_kd (c := fun (b_ : (((((Unit × Unit) × (Nat × ((List (Int ⊕ (Str ⊕ (List Str)))) × (List (Int ⊕ (Str ⊕ (List Str))))))) × V) × ((((Unit × Unit) × (Nat × (List (Int ⊕ (Str ⊕ (List Str)))))) × V) × ((((Unit × Unit) × (Nat × (List (Int ⊕ (Str ⊕ (List Str)))))) × V) × Unit))) × (Bool × ((List (Int ⊕ (Str ⊕ (List Str)))) × (List (Int ⊕ (Str ⊕ (List Str))))) × (List (Int ⊕ (Str ⊕ (List Str)))) × (List (Int ⊕ (Str ⊕ (List Str))))))) => (!(b_.2.1))) (t_not (t_kd (c := fun (b_ : (((((Unit × Unit) × (Nat × ((List (Int ⊕ (Str ⊕ (List Str)))) × (List (Int ⊕ (Str ⊕ (List Str))))))) × V) × ((((Unit × Unit) × (Nat × (List (Int ⊕ (Str ⊕ (List Str)))))) × V) × ((((Unit × Unit) × (Nat × (List (Int ⊕ (Str ⊕ (List Str)))))) × V) × Unit))) × (Bool × ((List (Int ⊕ (Str ⊕ (List Str)))) × (List (Int ⊕ (Str ⊕ (List Str))))) × (List (Int ⊕ (Str ⊕ (List Str)))) × (List (Int ⊕ (Str ⊕ (List Str))))))) => b_.2.1) (t_val (x_kd (E := fun (b_ : (((((Unit × Unit) × (Nat × ((List (Int ⊕ (Str ⊕ (List Str)))) × (List (Int ⊕ (Str ⊕ (List Str))))))) × V) × ((((Unit × Unit) × (Nat × (List (Int ⊕ (Str ⊕ (List Str)))))) × V) × ((((Unit × Unit) × (Nat × (List (Int ⊕ (Str ⊕ (List Str)))))) × V) × Unit))) × (Bool × ((List (Int ⊕ (Str ⊕ (List Str)))) × (List (Int ⊕ (Str ⊕ (List Str))))) × (List (Int ⊕ (Str ⊕ (List Str)))) × (List (Int ⊕ (Str ⊕ (List Str))))))) => pBl b_.2.1) (x_N (kk := 4) (xs := fun (b : ((((Unit × Unit) × (Nat × ((List (Int ⊕ (Str ⊕ (List Str)))) × (List (Int ⊕ (Str ⊕ (List Str))))))) × V) × ((((Unit × Unit) × (Nat × (List (Int ⊕ (Str ⊕ (List Str)))))) × V) × ((((Unit × Unit) × (Nat × (List (Int ⊕ (Str ⊕ (List Str)))))) × V) × Unit)))) => ((b.1.2, b.1.1.2.2), (b.2.1.2, b.2.1.1.2.2), (b.2.2.1.2, b.2.2.1.1.2.2))) [none, none, none] _ k_l_down_and_up (hr.mono (by decide)) g_l_down_and_up F_l_down_and_up.kp b_l_down_and_up (a_cons (E1 := fun (b_ : (((Unit × Unit) × (Nat × ((List (Int ⊕ (Str ⊕ (List Str)))) × (List (Int ⊕ (Str ⊕ (List Str))))))) × V)) => pV b_.2) (Es := fun (_ : (((Unit × Unit) × (Nat × ((List (Int ⊕ (Str ⊕ (List Str)))) × (List (Int ⊕ (Str ⊕ (List Str))))))) × V)) (b_ : ((((Unit × Unit) × (Nat × (List (Int ⊕ (Str ⊕ (List Str)))))) × V) × ((((Unit × Unit) × (Nat × (List (Int ⊕ (Str ⊕ (List Str)))))) × V) × Unit))) => ([pV b_.1.2, pV b_.2.1.2] : List Pd)) (x_path (k := fun (b_ : ((Unit × Unit) × (Nat × ((List (Int ⊕ (Str ⊕ (List Str)))) × (List (Int ⊕ (Str ⊕ (List Str)))))))) => (ixN (s447.2.1).length x448).bind fun m463 => ((s447.2.1)[m463]?).bind fun x464 => (ixN (s447.1).length x448).bind fun m467 => ((s447.1)[m467]?).bind fun x468 => (M_l_down_and_up b_.2.2 x464 x468).bind fun r471 => if (!(r471.1)) = true then inB (some (Tm.rt false)) else some (Bo.nx (((s447.1).set m467 (r471.2.2.2)), ((s447.2.1).set m463 (r471.2.2.1)), ((s447.2.2).set b_.2.1 (r471.2.1))))) 2 (f_ix (D := (O_History mg)) 2 (f_var (D := (oLO (O_History mg))) (x_var (p := pV v427) 4)) (fun _ => x_var (p := pInt x448) 8))) (fun z0_ => a_cons (E1 := fun (b_ : (((Unit × Unit) × (Nat × (List (Int ⊕ (Str ⊕ (List Str)))))) × V)) => pV b_.2) (Es := fun (_ : (((Unit × Unit) × (Nat × (List (Int ⊕ (Str ⊕ (List Str)))))) × V)) (b_ : ((((Unit × Unit) × (Nat × (List (Int ⊕ (Str ⊕ (List Str)))))) × V) × Unit)) => ([pV b_.1.2] : List Pd)) (x_T (x_path (k := fun (b_ : ((Unit × Unit) × (Nat × (List (Int ⊕ (Str ⊕ (List Str))))))) => (ixN (s447.1).length x448).bind fun m467 => ((s447.1)[m467]?).bind fun x468 => (M_l_down_and_up z0_.1.2.2 b_.2.2 x468).bind fun r471 => if (!(r471.1)) = true then inB (some (Tm.rt false)) else some (Bo.nx (((s447.1).set m467 (r471.2.2.2)), ((s447.2.1).set b_.2.1 (r471.2.2.1)), ((s447.2.2).set z0_.1.2.1 (r471.2.1))))) 2 (f_ix (D := (oL (pSm pInt (pSm pStr (I_Unlike mg))))) 2 (f_var (D := (oLO (oL (pSm pInt (pSm pStr (I_Unlike mg)))))) (x_var (p := pV v431) 5)) (fun _ => x_var (p := pInt x448) 8))) (by rfl)) (fun z1_ => a_cons (E1 := fun (b_ : (((Unit × Unit) × (Nat × (List (Int ⊕ (Str ⊕ (List Str)))))) × V)) => pV b_.2) (Es := fun (_ : (((Unit × Unit) × (Nat × (List (Int ⊕ (Str ⊕ (List Str)))))) × V)) (b_ : Unit) => ([] : List Pd)) (x_T (x_path (k := fun (b_ : ((Unit × Unit) × (Nat × (List (Int ⊕ (Str ⊕ (List Str))))))) => (M_l_down_and_up z0_.1.2.2 z1_.1.2.2 b_.2.2).bind fun r471 => if (!(r471.1)) = true then inB (some (Tm.rt false)) else some (Bo.nx (((s447.1).set b_.2.1 (r471.2.2.2)), ((s447.2.1).set z1_.1.2.1 (r471.2.2.1)), ((s447.2.2).set z0_.1.2.1 (r471.2.1))))) 2 (f_ix (D := (oL (pSm pInt (pSm pStr (I_Unlike mg))))) 2 (f_var (D := (oLO (oL (pSm pInt (pSm pStr (I_Unlike mg)))))) (x_var (p := pV v435) 6)) (fun _ => x_var (p := pInt x448) 8))) (by rfl)) (fun z2_ => a_nilK)))) (fun _ _ _ ok => (((ok.out (j := 0) rfl).out (j := 2) rfl).out (j := 4) rfl)) (fun _ _ _ _ ok => ((((((ok.back (j := 4) rfl).back (j := 2) rfl).back (j := 0) rfl).join (j := 2) (D := (oL (pSm pInt (pSm pStr (I_Unlike mg))))) rfl).join (j := 2) (D := (oL (pSm pInt (pSm pStr (I_Unlike mg))))) rfl).join (j := 2) (D := (O_History mg)) rfl)) (hn := fun _ _ => ⟨rfl, rfl, rfl, trivial⟩))))))) (fun (b472 : (((((Unit × Unit) × (Nat × ((List (Int ⊕ (Str ⊕ (List Str)))) × (List (Int ⊕ (Str ⊕ (List Str))))))) × V) × ((((Unit × Unit) × (Nat × (List (Int ⊕ (Str ⊕ (List Str)))))) × V) × ((((Unit × Unit) × (Nat × (List (Int ⊕ (Str ⊕ (List Str)))))) × V) × Unit))) × (Bool × ((List (Int ⊕ (Str ⊕ (List Str)))) × (List (Int ⊕ (Str ⊕ (List Str))))) × (List (Int ⊕ (Str ⊕ (List Str)))) × (List (Int ⊕ (Str ⊕ (List Str))))))) => s_T (T := some (Tm.rt false)) (s_ret (P := (fun _ => [])) (Rp := pBl) (ι := Tm.rt) (rv := fun (b : Unit) => false) (fun _ _ _ h => by exact h) x_bl (fun _ => .cons _ (.cons _ (.cons _ (.cons _ (.slnil))))))) fun (b472 : (((((Unit × Unit) × (Nat × ((List (Int ⊕ (Str ⊕ (List Str)))) × (List (Int ⊕ (Str ⊕ (List Str))))))) × V) × ((((Unit × Unit) × (Nat × (List (Int ⊕ (Str ⊕ (List Str)))))) × V) × ((((Unit × Unit) × (Nat × (List (Int ⊕ (Str ⊕ (List Str)))))) × V) × Unit))) × (Bool × ((List (Int ⊕ (Str ⊕ (List Str)))) × (List (Int ⊕ (Str ⊕ (List Str))))) × (List (Int ⊕ (Str ⊕ (List Str)))) × (List (Int ⊕ (Str ⊕ (List Str))))))) => s_endB (((s447.1).set b472.1.2.2.1.1.2.1 (b472.2.2.2.2)), ((s447.2.1).set b472.1.2.1.1.2.1 (b472.2.2.2.1)), ((s447.2.2).set b472.1.1.1.2.1 (b472.2.2.1))) (by exact ⟨rfl, rfl, rfl, rfl, rfl, rfl, rfl, trivial⟩) (List.Sublist.refl _)))) (fun b446 s449 => s_frz (i := 6) (c := ⟨v435, (oLO (oL (pSm pInt (pSm pStr (I_Unlike mg))))) s449.1, none⟩) 0 (s_frz (i := 5) (c := ⟨v431, (oLO (oL (pSm pInt (pSm pStr (I_Unlike mg))))) s449.2.1, none⟩) 0 (s_frz (i := 4) (c := ⟨v427, (oLO (O_History mg)) s449.2.2, none⟩) 0 (s_T (T := (atI (s449.2.2) (0 : Int)).bind fun x450 => (atI (s449.2.1) (0 : Int)).bind fun x451 => (atI (s449.1) (0 : Int)).bind fun x452 => (M_l_looks x450 x451 x452).bind fun r453 => some r453) (s_ret (P := (fun _ => [])) (Rp := pBl) (ι := id) (rv := fun (b : ((((Unit × Unit) × ((List (Int ⊕ (Str ⊕ (List Str)))) × (List (Int ⊕ (Str ⊕ (List Str)))))) × (((Unit × Unit) × (List (Int ⊕ (Str ⊕ (List Str))))) × ((Unit × Unit) × (List (Int ⊕ (Str ⊕ (List Str))))))) × Bool)) => b.2) (fun _ _ _ h => by exact h) (x_kd (x_kd (E := fun (b_ : ((((Unit × Unit) × ((List (Int ⊕ (Str ⊕ (List Str)))) × (List (Int ⊕ (Str ⊕ (List Str)))))) × (((Unit × Unit) × (List (Int ⊕ (Str ⊕ (List Str))))) × ((Unit × Unit) × (List (Int ⊕ (Str ⊕ (List Str))))))) × Bool)) => pBl b_.2) (x_FFF_f (kk := 3) (E1 := (I_History mg)) (E2 := (pL (pSm pInt (pSm pStr (I_Unlike mg))))) (E3 := (pL (pSm pInt (pSm pStr (I_Unlike mg))))) k_l_looks (hr.mono (by decide)) g_l_looks F_l_looks.kp b_l_looks (x_kd (E := fun (b_ : ((Unit × Unit) × ((List (Int ⊕ (Str ⊕ (List Str)))) × (List (Int ⊕ (Str ⊕ (List Str))))))) => (I_History mg) b_.2) (x_ixL (Ee := (I_History mg)) (x_var (p := (pL (I_History mg)) s449.2.2) 4) (fun _ => x_int (i := 0)) (fun _ _ => rdF))) (fun _ => x_kd (E := fun (b_ : ((Unit × Unit) × (List (Int ⊕ (Str ⊕ (List Str)))))) => (pL (pSm pInt (pSm pStr (I_Unlike mg)))) b_.2) (x_ixL (Ee := (pL (pSm pInt (pSm pStr (I_Unlike mg))))) (x_var (p := (pL (pL (pSm pInt (pSm pStr (I_Unlike mg))))) s449.2.1) 5) (fun _ => x_int (i := 0)) (fun _ _ => rdF))) (fun _ _ => x_kd (E := fun (b_ : ((Unit × Unit) × (List (Int ⊕ (Str ⊕ (List Str)))))) => (pL (pSm pInt (pSm pStr (I_Unlike mg)))) b_.2) (x_ixL (Ee := (pL (pSm pInt (pSm pStr (I_Unlike mg))))) (x_var (p := (pL (pL (pSm pInt (pSm pStr (I_Unlike mg))))) s449.1) 6) (fun _ => x_int (i := 0)) (fun _ _ => rdF)))))) (fun _ => .cons _ (.slnil))))))) (fun _ _ _ h => by exact h)))) (fun _ _ _ h => by exact h))))))))) (by unfold M_law; rfl)
end
end My
end
section
namespace My
open PySem PySem.Spec PyProof.Rows L2 L3
def Wp {α : Type} (m : Option α) (Q : α → Prop) : Prop := ∃ a, m = some a ∧ Q a
section
variable {α β γ S ρ δ : Type}
theorem wp_some {a : α} {Q : α → Prop} (h : Q a) : Wp (some a) Q := ⟨a, rfl, h⟩
theorem wp_bind {m : Option α} {k : α → Option β} {Q : β → Prop} (h : Wp m fun a => Wp (k a) Q) : Wp (m.bind k) Q := by
  obtain ⟨a, e, b, e2, q⟩ := h
  exact ⟨b, by rw [e]; exact e2, q⟩
theorem wp_mono {m : Option α} {Q R : α → Prop} (h : Wp m Q) (f : ∀ a, Q a → R a) : Wp m R := by
  obtain ⟨a, e, q⟩ := h
  exact ⟨a, e, f a q⟩
theorem wp_then {m : Option α} {k : α → Option β} {P : α → Prop} {Q : β → Prop} (h : Wp m P) (f : ∀ a, P a → Wp (k a) Q) : Wp (m.bind k) Q := wp_bind (wp_mono h f)
theorem wp_eq {m : Option α} {k : α → Option β} {a : α} {Q : β → Prop} (h : m = some a) (f : Wp (k a) Q) : Wp (m.bind k) Q := wp_bind ⟨a, h, f⟩
theorem wp_grd {c : Prop} [Decidable c] {m : Option α} {Q : α → Prop} (h : c) (f : Wp m Q) : Wp (grd c m) Q := by
  unfold grd
  rw [if_pos h]
  exact f
theorem wp_ite {c : Prop} [Decidable c] {m n : Option α} {Q : α → Prop} (h : c → Wp m Q) (f : ¬ c → Wp n Q) : Wp (if c then m else n) Q := by
  by_cases x : c
  · rw [if_pos x]; exact h x
  · rw [if_neg x]; exact f x
theorem wp_is {m : Option α} {a : α} (h : Wp m fun x => x = a) : m = some a := by
  obtain ⟨b, e, q⟩ := h
  rw [e, q]
theorem gp {γ : Type} {c : Prop} [Decidable c] {x : Option γ} (h : c) : grd c x = x := if_pos h
theorem wp_forS {f : α → S → Option S} {Q : S → Prop} (I : List α → S → Prop) : ∀ {xs : List α} {pre : List α} {s : S}, I pre s → (∀ p x t s, pre ++ xs = p ++ x :: t → I p s → Wp (f x s) (I (p ++ [x]))) → (∀ s, I (pre ++ xs) s → Q s) → Wp (forS xs s f) Q
  | [], pre, s, h0, _, hq => ⟨s, rfl, hq s (by simpa using h0)⟩
  | x :: xs, pre, s, h0, hs, hq => by
    obtain ⟨s1, e1, i1⟩ := hs pre x xs s rfl h0
    have ih := wp_forS (f := f) (Q := Q) I (xs := xs) (pre := pre ++ [x]) (s := s1) i1 (fun p y t s e => hs p y t s (by rw [← e]; simp)) (fun s hi => hq s (by simpa using hi))
    show Wp ((f x s).bind fun s' => forS xs s' f) Q
    exact wp_eq e1 ih
theorem wp_for {f : α → S → Option S} {Q : S → Prop} {xs : List α} {s : S} (I : List α → S → Prop) (h0 : I [] s) (hs : ∀ p x t s, xs = p ++ x :: t → I p s → Wp (f x s) (I (p ++ [x]))) (hq : ∀ s, I xs s → Q s) : Wp (forS xs s f) Q :=
  wp_forS (pre := []) I h0 (fun p x t s e => hs p x t s e) (fun s h => hq s h)
theorem wp_forLG {f : α → S → Option (Bo S (Tm S ρ))} {Q : Bo S ρ → Prop} (I : List α → S → Prop) : ∀ {xs : List α} {pre : List α} {s : S}, I pre s →
    (∀ p x t s, pre ++ xs = p ++ x :: t → I p s → Wp (f x s) fun o => match o with | .nx s' => I (p ++ [x]) s' | .tm (.ct s') => I (p ++ [x]) s' | .tm (.bk s') => Q (.nx s') | .tm (.rt r) => Q (.tm r)) → (∀ s, I (pre ++ xs) s → Q (.nx s)) → Wp (forL xs s f) Q
  | [], pre, s, h0, _, hq => ⟨.nx s, rfl, hq s (by simpa using h0)⟩
  | x :: xs, pre, s, h0, hs, hq => by
    obtain ⟨o, e1, i1⟩ := hs pre x xs s rfl h0
    have go : ∀ s1, I (pre ++ [x]) s1 → Wp (forL xs s1 f) Q := fun s1 i1 => wp_forLG I (xs := xs) (pre := pre ++ [x]) (s := s1) i1 (fun p y t s e => hs p y t s (by rw [← e]; simp)) (fun s hi => hq s (by simpa using hi))
    show Wp ((f x s).bind _) Q
    refine wp_eq e1 ?_
    match o, i1 with
    | .nx s', i1 => exact go s' i1
    | .tm (.ct s'), i1 => exact go s' i1
    | .tm (.bk s'), i1 => exact ⟨_, rfl, i1⟩
    | .tm (.rt r), i1 => exact ⟨_, rfl, i1⟩
theorem wp_forL {f : α → S → Option (Bo S (Tm S ρ))} {Q : Bo S ρ → Prop} {xs : List α} {s : S} (I : List α → S → Prop) (h0 : I [] s)
    (hs : ∀ p x t s, xs = p ++ x :: t → I p s → Wp (f x s) fun o => match o with | .nx s' => I (p ++ [x]) s' | .tm (.ct s') => I (p ++ [x]) s' | .tm (.bk s') => Q (.nx s') | .tm (.rt r) => Q (.tm r)) (hq : ∀ s, I xs s → Q (.nx s)) : Wp (forL xs s f) Q :=
  wp_forLG (pre := []) I h0 (fun p x t s e => hs p x t s e) (fun s h => hq s h)
theorem wp_whL {f : S → Option (Option (Bo S (Tm S ρ)))} {Q : Bo S ρ → Prop} (I : S → Prop) (μ : S → Nat) : ∀ {n : Nat} {s : S}, I s → μ s < n →
    (∀ s, I s → Wp (f s) fun o => match o with | none => Q (.nx s) | some (.nx s') => I s' ∧ μ s' < μ s | some (.tm (.ct s')) => I s' ∧ μ s' < μ s | some (.tm (.bk s')) => Q (.nx s') | some (.tm (.rt r)) => Q (.tm r)) → Wp (whL n f s) Q
  | 0, s, _, h, _ => absurd h (Nat.not_lt_zero _)
  | n + 1, s, h0, hm, hs => by
    obtain ⟨o, e1, i1⟩ := hs s h0
    show Wp ((f s).bind _) Q
    refine wp_eq e1 ?_
    match o, i1 with
    | none, i1 => exact ⟨_, rfl, i1⟩
    | some (.nx s'), i1 => exact wp_whL I μ i1.1 (by omega) hs
    | some (.tm (.ct s')), i1 => exact wp_whL I μ i1.1 (by omega) hs
    | some (.tm (.bk s')), i1 => exact ⟨_, rfl, i1⟩
    | some (.tm (.rt r)), i1 => exact ⟨_, rfl, i1⟩
end
theorem sz : sizeLine = 16777216 := rfl
theorem sb : scanBound = 4096 := rfl
theorem atI_get {α : Type} {xs : List α} {i : Int} (h0 : 0 ≤ i) (h : i.toNat < xs.length) : atI xs i = some (xs[i.toNat]'h) := by
  unfold atI ixN
  rw [if_pos h0, if_pos (by omega)]
  simp [List.getElem?_eq_getElem h]
theorem wp_at {α : Type} {xs : List α} {i : Int} {Q : α → Prop} (h0 : 0 ≤ i) (h : i < xs.length) (q : ∀ x, x ∈ xs → xs[i.toNat]? = some x → Q x) : Wp (atI xs i) Q :=
  ⟨_, atI_get h0 (by omega), q _ (List.getElem_mem _) (List.getElem?_eq_getElem (by omega))⟩
theorem atI_last {α : Type} {s : List α} {y : α} : atI (s ++ [y]) (-(1 : Int)) = some y := by
  unfold atI ixN
  rw [if_neg (by decide), if_pos (by rw [List.length_append]; simp only [List.length_singleton]; omega)]
  simp only [Option.bind_some]
  rw [List.length_append, List.length_singleton, show ((-1 : Int) + ((s.length + 1 : Nat) : Int)).toNat = s.length by omega]
  simp
theorem rngL_mem {lo : Int} {n : Nat} {x : Int} : x ∈ rngL lo n ↔ lo ≤ x ∧ x < lo + n := by
  unfold rngL
  simp only [List.mem_map, List.mem_range]
  constructor
  · rintro ⟨i, h, rfl⟩; omega
  · intro h; exact ⟨(x - lo).toNat, by omega, by omega⟩
theorem rngL_split {lo : Int} {n : Nat} {p t : List Int} {x : Int} (h : rngL lo n = p ++ x :: t) : x = lo + p.length ∧ p.length < n := by
  have hl := congrArg List.length h
  rw [rngL_len, List.length_append, List.length_cons] at hl
  have e := congrArg (fun l => l[p.length]?) h
  simp only [List.getElem?_append_right (Nat.le_refl _), Nat.sub_self, List.getElem?_cons_zero] at e
  unfold rngL at e
  rw [List.getElem?_map, List.getElem?_range (by omega)] at e
  simp only [Option.map_some, Option.some.injEq] at e
  exact ⟨e.symm, by omega⟩
end My
end
section
namespace My
open PySem PySem.Spec PyProof.Rows L2 L3
section
variable {κ α : Type} [DecidableEq κ]
end
end My
end
section
namespace My
open PySem PySem.Spec PyProof.Rows L2 L3
def Stm (s : List Int) : Prop := ∃ a b c, s = [a, b, c]
theorem next_wp {s : List Int} {n : Int} (hs : Stm s) (h0 : 0 < n) (h1 : n < 1073741824) : Wp (M_l_next s n) fun r => 0 ≤ r.1 ∧ r.1 < n ∧ Stm r.2 := by
  obtain ⟨a, b, c, rfl⟩ := hs
  have e0 : atI [a, b, c] (1 : Int) = some b := rfl
  have e1 : ixN [a, b, c].length (1 : Int) = some 1 := rfl
  have hdv : dv n = true := by unfold dv; simp; omega
  unfold M_l_next
  rw [e0, e1]
  simp only [Option.bind_some, Option.getD_some, List.set]
  have e2 : atI [a, b + 1, c] (0 : Int) = some a := rfl
  have e3 : atI [a, b + 1, c] (2 : Int) = some c := rfl
  have e4 : atI [a, b + 1, c] (1 : Int) = some (b + 1) := rfl
  have e5 : ixN [a, b + 1, c].length (0 : Int) = some 0 := rfl
  rw [e2, e3, e4, e5]
  simp only [Option.bind_some, Option.getD_some, List.set]
  by_cases h : 0 < a
  · rw [if_pos (by simpa using h), gp h0, gp hdv]
    exact ⟨_, rfl, Int.emod_nonneg _ (by omega), Int.emod_lt_of_pos _ h0, ⟨_, _, _, rfl⟩⟩
  · rw [if_neg (by simpa using h)]
    rw [gp (by rfl), gp (by decide), gp, gp (by decide), gp, gp (by rfl), gp (by decide), gp (by rfl), gp h0]
    · exact ⟨_, rfl, Int.emod_nonneg _ (by omega), Int.emod_lt_of_pos _ h0, ⟨_, _, _, rfl⟩⟩
    · have := Int.emod_nonneg (((c + 7919 * (b + 1) + 13) % 2147483647) * ((c + 7919 * (b + 1) + 13) % 2147483647 + 48271)) (b := 2147483629) (by decide)
      have := Int.emod_lt_of_pos (((c + 7919 * (b + 1) + 13) % 2147483647) * ((c + 7919 * (b + 1) + 13) % 2147483647 + 48271)) (b := 2147483629) (by decide)
      unfold sm
      simp
      omega
    · have := Int.emod_nonneg (c + 7919 * (b + 1) + 13) (b := 2147483647) (by decide)
      have := Int.emod_lt_of_pos (c + 7919 * (b + 1) + 13) (b := 2147483647) (by decide)
      unfold sm
      simp
      omega
theorem stream_wp {xs : List Int} {k : Int} (hk : 0 ≤ k) : Wp (M_l_stream xs k) Stm := by
  unfold M_l_stream
  simp only [Option.bind_some]
  by_cases h : k < (xs.length : Int)
  · rw [if_pos (by simpa using h), atI_get hk (by omega)]
    simp only [Option.bind_some]
    rw [gp]
    · exact ⟨_, rfl, _, _, _, rfl⟩
    · rw [Bool.or_eq_true]
      right
      split <;> rfl
  · rw [if_neg (by simpa using h)]
    simp only [Option.bind_some]
    rw [gp]
    · exact ⟨_, rfl, _, _, _, rfl⟩
    · rfl
theorem wp_next {β : Type} {s : List Int} {n : Int} {k : Int × List Int → Option β} {Q : β → Prop} (hs : Stm s) (h0 : 0 < n) (h1 : n < 1073741824) (f : ∀ r t, 0 ≤ r → r < n → Stm t → Wp (k (r, t)) Q) : Wp ((M_l_next s n).bind k) Q :=
  wp_then (next_wp hs h0 h1) fun r h => f r.1 r.2 h.1 h.2.1 h.2.2
theorem wp_stream {β : Type} {xs : List Int} {i : Int} {k : List Int → Option β} {Q : β → Prop} (hk : 0 ≤ i) (f : ∀ t, Stm t → Wp (k t) Q) : Wp ((M_l_stream xs i).bind k) Q :=
  wp_then (stream_wp hk) f
theorem wp_let {α β : Type} {a : α} {k : α → Option β} {Q : β → Prop} (h : Wp (k a) Q) : Wp ((some a).bind k) Q := h
theorem sm_lt {i : Int} (h1 : -(2 ^ 64) < i) (h2 : i < 2 ^ 64) : sm i = true := by unfold sm; rw [Bool.and_eq_true]; exact ⟨decide_eq_true h1, decide_eq_true h2⟩
theorem rg_lt {i : Int} (h1 : -1000000 ≤ i) (h2 : i ≤ 16777216) : rg i = true := by unfold rg; rw [Bool.and_eq_true]; exact ⟨decide_eq_true (by omega), decide_eq_true h2⟩
end My
end
section
namespace My
open PySem PySem.Spec PyProof.Rows L2 L3
theorem forL_go {f : α → S → Option (Bo S (Tm S ρ))} {s : S} : ∀ {xs : List α}, (∀ x ∈ xs, f x s = some (.nx s)) → forL xs s f = some (.nx s)
  | [], _ => rfl
  | x :: xs, h => by
    show (f x s).bind _ = _
    rw [h x List.mem_cons_self]
    exact forL_go fun y hy => h y (List.mem_cons_of_mem _ hy)
abbrev St := Int ⊕ (Str ⊕ List Str)
abbrev Hs := List St × List St
def Sok : St → Prop
  | .inr (.inr ns) => ∀ x ∈ ns, strOk x = true
  | _ => True
theorem isi (j : Int) : M_l_is_integer j = some true := by unfold M_l_is_integer; rfl
theorem bind_if {α β : Type} {c : Prop} [Decidable c] {m n : Option α} {k : α → Option β} (h : c) : (if c then m else n).bind k = m.bind k := by rw [if_pos h]
theorem okTN {ns : List Str} (h : ∀ p ∈ ns, strOk p = true) : okG (dgTN dgStr) ns ns = true := by
  have : (ns.all fun x => strOk x) = true := by
    rw [List.all_eq_true]
    exact h
  show ((ns.all fun x => strOk x) && (ns.all fun x => strOk x)) = true
  rw [this]; rfl
theorem same_refl {x : St} (h : Sok x) : M_l_same_state (some x) x = some true := by
  unfold M_l_same_state
  rcases x with i | s | ns
  · show (if false = true then _ else if false = true then _ else _) = _
    rw [if_neg (by decide), if_neg (by decide)]
    simp only [Option.bind_some, smL, isi]
    simp
  · show (if false = true then _ else if true = true then _ else _) = _
    rw [if_neg (by decide), if_pos rfl]
    refine (bind_if rfl).trans ?_
    simp [smL, smR]
  · have h : ∀ x ∈ ns, strOk x = true := h
    show (if true = true then _ else _) = _
    rw [if_pos rfl]
    refine (bind_if rfl).trans ?_
    simp only [Option.bind_some, smR]
    rw [gp (okTN h)]
    simp
structure Iv (b a : List St) (N : Nat) : Prop where
  ne : b ≠ []
  ob : ∀ x ∈ b, Sok x
  oa : ∀ x ∈ a, Sok x
  ln : b.length + a.length ≤ N
  nn : N ≤ 10000
theorem pop_snoc {α : Type} {b : List α} {x : α} : popL (b ++ [x]) = some (x, b) := by
  unfold popL
  rw [List.getLast?_concat, List.dropLast_concat]
theorem snoc_of {α : Type} {b : List α} (h : b ≠ []) : ∃ c y, b = c ++ [y] := ⟨b.dropLast, b.getLast h, (List.dropLast_concat_getLast h).symm⟩
def Dn (N : Nat) (r : Bool × Hs × List St × List St) : Prop := r.1 = true ∧ ∃ b a, r.2 = ((b, a), b, a) ∧ Iv b a N
theorem looks_ok {b a : List St} {N : Nat} (h : Iv b a N) : M_l_looks (b, a) b a = some true := by
  obtain ⟨c, y, rfl⟩ := snoc_of h.ne
  have hy := same_refl (h.ob y (List.mem_append_right _ (List.mem_singleton.mpr rfl)))
  have e1 : M_History_state (c ++ [y], a) = some y := by
    unfold M_History_state
    dsimp only
    rw [atI_last]; rfl
  have e2 : M_History_steps (c ++ [y], a) = some (((c ++ [y]).length : Int) - 1) := by unfold M_History_steps; rfl
  have e3 : M_History_undone (c ++ [y], a) = some (a.length : Int) := by unfold M_History_undone; rfl
  unfold M_l_looks
  rw [gp (by rfl), forL_go fun i _ => by
    rw [e1, Option.bind_some, atI_last, Option.bind_some, hy, Option.bind_some, if_neg (by decide), e2]
    simp only [Option.bind_some]
    rw [isi, e3]
    simp only [Option.bind_some]
    rw [isi]
    simp]
  rfl
theorem undo_wp {b a : List St} {N : Nat} (h : Iv b a N) : Wp (M_l_undo (b, a) b a) (Dn N) := by
  have hz := sz
  have hn := h.nn
  have hl := h.ln
  unfold M_l_undo
  refine wp_let (wp_let ?_)
  by_cases c : (b.length : Int) = 1
  · have e : M_History_undo (b, a) = some (.error (⟨"NothingToUndo", []⟩ : Er)) := by
      unfold M_History_undo
      exact if_pos (decide_eq_true c)
    rw [e]
    refine wp_eq (a := Bo.tm (.error (⟨"NothingToUndo", []⟩ : Er))) rfl ?_
    unfold tryK
    dsimp only
    rw [if_pos (by decide +kernel), if_neg (by decide +kernel), if_neg (by decide +kernel), if_neg (by decide +kernel), if_neg (by decide +kernel)]
    refine wp_let ?_
    unfold boK
    dsimp only
    rw [if_pos (decide_eq_true c)]
    exact wp_some ⟨rfl, b, a, rfl, h⟩
  · obtain ⟨b0, x, rfl⟩ := snoc_of h.ne
    have hb0 : b0 ≠ [] := fun z => c (by rw [z]; rfl)
    obtain ⟨b1, y, rfl⟩ := snoc_of hb0
    rw [List.length_append, List.length_singleton] at hl
    have e : M_History_undo ((b1 ++ [y]) ++ [x], a) = some (.ok (y, (b1 ++ [y], a ++ [x]))) := by
      unfold M_History_undo
      rw [if_neg (by simpa using c)]
      dsimp only
      rw [pop_snoc, Option.bind_some, gp (by omega)]
      dsimp only
      rw [atI_last]; rfl
    rw [e]
    refine wp_eq (a := Bo.nx (false, some y, (b1 ++ [y], a ++ [x]))) rfl ?_
    unfold tryK
    dsimp only
    rw [if_neg (by simpa using c), pop_snoc]
    refine wp_let (wp_grd (by omega) (wp_eq (a := (true, ())) ?_ (wp_some ⟨rfl, b1 ++ [y], a ++ [x], rfl, hb0, fun z hz => h.ob z (List.mem_append_left _ hz), fun z hz => ?_, ?_, hn⟩)))
    · rw [if_pos (by decide)]
      dsimp only
      rw [atI_last, Option.bind_some, same_refl (h.ob y (List.mem_append_left _ (List.mem_append_right _ (List.mem_singleton.mpr rfl))))]; rfl
    · rcases List.mem_append.mp hz with q | q
      · exact h.oa z q
      · rw [List.mem_singleton.mp q]; exact h.ob x (List.mem_append_right _ (List.mem_singleton.mpr rfl))
    · rw [List.length_append (as := a), List.length_singleton]; omega
theorem redo_wp {b a : List St} {N : Nat} (h : Iv b a N) : Wp (M_l_redo (b, a) b a) (Dn N) := by
  have hz := sz
  have hn := h.nn
  have hl := h.ln
  unfold M_l_redo
  refine wp_let (wp_let ?_)
  by_cases c : a = []
  · subst c
    have e : M_History_redo (b, []) = some (.error (⟨"NothingToRedo", []⟩ : Er)) := by
      unfold M_History_redo
      rfl
    rw [e]
    refine wp_eq (a := Bo.tm (.error (⟨"NothingToRedo", []⟩ : Er))) rfl ?_
    unfold tryK
    dsimp only
    rw [if_pos (by decide +kernel), if_neg (by decide +kernel), if_neg (by decide +kernel), if_neg (by decide +kernel), if_neg (by decide +kernel)]
    refine wp_let ?_
    exact wp_some ⟨rfl, b, [], rfl, h⟩
  · obtain ⟨a0, x, rfl⟩ := snoc_of c
    rw [List.length_append (as := a0), List.length_singleton] at hl
    have e : M_History_redo (b, a0 ++ [x]) = some (.ok (x, (b ++ [x], a0))) := by
      unfold M_History_redo
      rw [if_neg (by simp)]
      dsimp only
      rw [pop_snoc, Option.bind_some, gp (by omega)]
      dsimp only
      rw [atI_last]; rfl
    rw [e]
    refine wp_eq (a := Bo.nx (false, some x, (b ++ [x], a0))) rfl ?_
    unfold tryK
    dsimp only
    rw [if_neg (by simp; omega), pop_snoc]
    have hx : Sok x := h.oa x (List.mem_append_right _ (List.mem_singleton.mpr rfl))
    refine wp_let (wp_grd (by omega) (wp_eq (a := (true, ())) ?_ (wp_some ⟨rfl, b ++ [x], a0, rfl, by simp, fun z hz => ?_, fun z hz => h.oa z (List.mem_append_left _ hz), ?_, hn⟩)))
    · rw [if_pos (by decide)]
      dsimp only
      rw [atI_last, Option.bind_some, same_refl hx]; rfl
    · rcases List.mem_append.mp hz with q | q
      · exact h.ob z q
      · rw [List.mem_singleton.mp q]; exact hx
    · rw [List.length_append, List.length_singleton]; omega
theorem push_wp {b a : List St} {N : Nat} {x : St} (h : Iv b a N) (hx : Sok x) (hN : N + 1 ≤ 10000) : Wp (M_l_push (b, a) b a x) (Dn (N + 1)) := by
  have hz := sz
  have hl := h.ln
  unfold M_l_push M_History_push
  refine wp_eq (a := ((), (b ++ [x], []))) (gp (by show b.length < sizeLine; omega)) (wp_let (wp_grd (by omega) (wp_some ⟨rfl, b ++ [x], [], rfl, by simp, fun z hz => ?_, (fun _ h => nomatch h), ?_, hN⟩)))
  · rcases List.mem_append.mp hz with q | q
    · exact h.ob z q
    · rw [List.mem_singleton.mp q]; exact hx
  · rw [List.length_append, List.length_singleton, List.length_nil]; omega
end My
end
section
namespace My
open PySem PySem.Spec PyProof.Rows L2 L3
theorem pop_take {b : List St} {m : Nat} (h : m < b.length) : b.take (m + 1) = b.take m ++ [b[m]] ∧ b.drop m = b[m] :: b.drop (m + 1) := ⟨by rw [List.take_succ_eq_append_getElem h], List.drop_eq_getElem_cons h⟩
theorem erF_s {n : Int} : erF ⟨"UnknownStep", [.int n]⟩ "number" = some (.int n) := by
  have h : fieldsOf "UnknownStep" = [("number" : Str)] := by decide +kernel
  unfold erF
  dsimp only
  rw [h]
  show List.lookup _ [(("number" : Str), FV.int n)] = _
  rw [List.lookup_cons, show (("number" : Str) == "number") = true by decide +kernel]
theorem backto_ok {b a : List St} {t : Int} (t0 : 0 ≤ t) (t1 : t < b.length) (hl : b.length + a.length ≤ 10000) : M_History_back_to (b, a) t = some (.ok (b[t.toNat]'(by omega), (b.take (t.toNat + 1), a ++ (b.drop (t.toNat + 1)).reverse))) := by
  have hz := sz
  apply wp_is
  unfold M_History_back_to
  dsimp only
  rw [if_neg (by simp; omega)]
  refine wp_bind (wp_mono (wp_whL (Q := fun o => o = .nx (a ++ (b.drop (t.toNat + 1)).reverse, b.take (t.toNat + 1))) (fun s => ∃ m, t.toNat + 1 ≤ m ∧ m ≤ b.length ∧ s = (a ++ (b.drop m).reverse, b.take m)) (fun s => s.2.length) ⟨b.length, by omega, Nat.le_refl _, by simp⟩ (by rw [wfuel_eq]; show b.length < _; omega) ?_) fun o ho => ?_)
  · rintro s ⟨m, m1, m2, rfl⟩
    dsimp only
    have hm : (b.take m).length = m := by rw [List.length_take]; omega
    refine wp_ite (fun c => ?_) fun c => wp_some ?_
    · rw [hm] at c
      have c : t < (m : Int) - 1 := of_decide_eq_true c
      obtain ⟨k, rfl⟩ : ∃ k, m = k + 1 := ⟨m - 1, by omega⟩
      obtain ⟨p1, p2⟩ := pop_take (b := b) (m := k) (by omega)
      rw [p1, pop_snoc]
      refine wp_bind (wp_let (wp_grd (by rw [List.length_append, List.length_reverse, List.length_drop]; omega) (wp_some (wp_some ⟨⟨k, by omega, by omega, ?_⟩, ?_⟩))))
      · rw [p2, List.reverse_cons, List.append_assoc]
      · show (b.take k).length < (b.take k ++ [b[k]]).length
        rw [List.length_append, List.length_singleton]; omega
    · rw [hm] at c
      have c : ¬ t < (m : Int) - 1 := fun z => c (decide_eq_true z)
      have : m = t.toNat + 1 := by omega
      rw [this]
  · rw [ho]
    unfold boK
    dsimp only
    have p1 := (pop_take (b := b) (m := t.toNat) (by omega)).1
    rw [p1, atI_last]
    exact wp_let (wp_some rfl)
theorem back_wp {b a : List St} {N : Nat} {t : Int} (h : Iv b a N) : Wp (M_l_back (b, a) b a t) (Dn N) := by
  have hz := sz
  have hn := h.nn
  have hl := h.ln
  unfold M_l_back
  refine wp_let (wp_let ?_)
  by_cases c : t < 0 ∨ (b.length : Int) ≤ t
  · have cc : ((decide (t < (0 : Int))) || (decide ((b.length : Int) ≤ t))) = true := by simpa using c
    have e : M_History_back_to (b, a) t = some (.error (⟨"UnknownStep", [.int t]⟩ : Er)) := by
      unfold M_History_back_to
      exact if_pos cc
    rw [e]
    refine wp_eq (a := Bo.tm (.error (⟨"UnknownStep", [.int t]⟩ : Er))) rfl ?_
    unfold tryK
    dsimp only
    rw [if_pos (by decide +kernel), if_neg (by decide +kernel), if_neg (by decide +kernel), if_neg (by decide +kernel), if_neg (by decide +kernel), erF_s]
    simp only [Option.bind_some]
    unfold FV.int?
    simp only [Option.bind_some]
    rw [isi]
    simp only [Option.bind_some]
    rw [if_neg (by decide)]
    simp only [Option.bind_some]
    rw [if_neg (by simp)]
    refine wp_let ?_
    unfold boK
    dsimp only
    rw [if_pos cc]
    exact wp_some ⟨rfl, b, a, rfl, h⟩
  · have t0 : 0 ≤ t := by omega
    have t1 : t < b.length := by omega
    have e := backto_ok (b := b) (a := a) t0 t1 (by omega)
    rw [e]
    refine wp_eq (a := Bo.nx (false, some (b[t.toNat]'(by omega)), (b.take (t.toNat + 1), a ++ (b.drop (t.toNat + 1)).reverse))) rfl ?_
    unfold tryK
    dsimp only
    rw [if_neg (by simpa using c)]
    have hx : Sok (b[t.toNat]'(by omega)) := h.ob _ (List.getElem_mem _)
    have p1 := (pop_take (b := b) (m := t.toNat) (by omega)).1
    refine wp_grd (rg_lt (by omega) (by omega)) (wp_then (P := fun s => s = (b.take (t.toNat + 1), a ++ (b.drop (t.toNat + 1)).reverse)) (wp_for (fun p s => s = (b.take (b.length - p.length), a ++ (b.drop (b.length - p.length)).reverse)) (by simp) ?_ fun s hs => ?_) fun s hs => ?_)
    · rintro p x q s e rfl
      have hp := (rngL_split e).2
      obtain ⟨k, hk⟩ : ∃ k, b.length - p.length = k + 1 := ⟨b.length - p.length - 1, by omega⟩
      obtain ⟨q1, q2⟩ := pop_take (b := b) (m := k) (by omega)
      dsimp only
      rw [hk, q1, pop_snoc]
      refine wp_let (wp_grd (by rw [List.length_append, List.length_reverse, List.length_drop]; omega) (wp_some ?_))
      rw [List.length_append, List.length_singleton, show b.length - (p.length + 1) = k by omega, q2, List.reverse_cons, List.append_assoc]
    · rw [rngL_len] at hs
      rw [hs, show b.length - ((b.length : Int) - 1 - t).toNat = t.toNat + 1 by omega]
    · rw [hs]
      refine wp_eq (a := (true, ())) ?_ (wp_some ⟨rfl, _, _, rfl, ?_, fun z hz => h.ob z (List.mem_of_mem_take hz), fun z hz => ?_, ?_, hn⟩)
      · rw [if_pos (by decide)]
        dsimp only
        rw [p1, atI_last, Option.bind_some, same_refl hx]; rfl
      · rw [p1]; exact List.append_ne_nil_of_right_ne_nil _ (List.cons_ne_nil _ _)
      · rcases List.mem_append.mp hz with q | q
        · exact h.oa z q
        · exact h.ob z (List.mem_of_mem_drop (List.mem_reverse.mp q))
      · rw [List.length_append, List.length_reverse, List.length_drop, List.length_take]; omega
theorem state_wp {s : List Int} (hs : Stm s) : Wp (M_l_state s) fun r => Sok r.1 ∧ Stm r.2 := by
  have hz := sz
  have logk : ∀ i : Nat, i < 100 → (i : Int).natAbs.log2 < 1920 := by decide +kernel
  have lenk : ∀ i : Nat, i < 100 → (Str.ofString (toString (i : Int))).length ≤ 10 := by decide +kernel
  have okk : ∀ i : Nat, i < 100 → strOk (("b" : Str) ++ Str.ofString (toString (i : Int))) = true ∧ ("a" : Str) ≠ ("b" : Str) ++ Str.ofString (toString (i : Int)) := by decide +kernel
  unfold M_l_state
  refine wp_next hs (by decide) (by decide) fun w t _ _ ht => wp_let (wp_ite (fun _ => ?_) fun _ => wp_ite (fun _ => ?_) fun _ => wp_ite (fun _ => ?_) fun _ => wp_ite (fun _ => ?_) fun _ => ?_)
  · refine wp_next ht (by decide) (by decide) fun i t i0 i1 ht => ?_
    obtain ⟨k, rfl⟩ : ∃ k : Nat, i = (k : Int) := ⟨i.toNat, by omega⟩
    have hk : k < 100 := by omega
    have hb : ("b" : Str).length = 1 := rfl
    have l1 := lenk k hk
    obtain ⟨o1, o2⟩ := okk k hk
    dsimp only
    refine wp_grd (logk k hk) (wp_grd (by omega) (wp_eq (a := [("a" : Str), ("b" : Str) ++ Str.ofString (toString (k : Int))]) ?_ (wp_some ⟨fun x hx => ?_, ht⟩)))
    · unfold M_Unlike___init__ M_checked_names
      rw [if_neg (by simp)]
      have e : forL [("a" : Str), ("b" : Str) ++ Str.ofString (toString (k : Int))] ([] : List Str) (fun x8 s7 => if (decide (x8 ∈ s7)) = true then inB (none : Option (Tm (List Str) (List Str))) else grd (s7.length < sizeLine) (some (Bo.nx (s7 ++ [x8])))) = some (.nx [("a" : Str), ("b" : Str) ++ Str.ofString (toString (k : Int))]) := by
        show (if decide (("a" : Str) ∈ ([] : List Str)) = true then _ else _ : Option (Bo (List Str) (Tm (List Str) (List Str)))).bind _ = _
        rw [if_neg (by simp), gp (by show 0 < sizeLine; omega)]
        show (if decide (("b" : Str) ++ Str.ofString (toString (k : Int)) ∈ [("a" : Str)]) = true then _ else _ : Option (Bo (List Str) (Tm (List Str) (List Str)))).bind _ = _
        rw [if_neg (by simp; exact fun z => o2 z.symm), gp (by show 1 < sizeLine; omega)]
        rfl
      simp only [Option.bind_some]
      rw [e]; rfl
    · rcases List.mem_cons.mp hx with q | q
      · rw [q]; decide +kernel
      · rw [List.mem_singleton.mp q]; exact o1
  · exact wp_next ht (by decide) (by decide) fun i t i0 i1 ht => wp_some ⟨trivial, ht⟩
  · exact wp_next ht (by decide) (by decide) fun i t i0 i1 ht => wp_bind (wp_at i0 (by simpa using i1) fun y _ _ => wp_some ⟨trivial, ht⟩)
  · exact wp_next ht (by decide) (by decide) fun i t i0 i1 ht => wp_grd (by rw [sm_lt (i := (i, t).1 - 500) (by show _ < i - 500; omega) (by show i - 500 < _; omega)]; rfl) (wp_some ⟨trivial, ht⟩)
  · refine wp_next ht (by decide) (by decide) fun i t i0 i1 ht => ?_
    obtain ⟨k, rfl⟩ : ∃ k : Nat, i = (k : Int) := ⟨i.toNat, by omega⟩
    have hk : k < 100 := by omega
    have hb : ("s" : Str).length = 1 := rfl
    have l1 := lenk k hk
    exact wp_grd (logk k hk) (wp_grd (by dsimp only; omega) (wp_some ⟨trivial, ht⟩))
end My
end
section
namespace My
open PySem PySem.Spec PyProof.Rows L2 L3
theorem Iv.mono {b a : List St} {N M : Nat} (h : Iv b a N) (hm : N ≤ M) (hM : M ≤ 10000) : Iv b a M := ⟨h.ne, h.ob, h.oa, Nat.le_trans h.ln hm, hM⟩
theorem Dn.mono {N M : Nat} {r : Bool × Hs × List St × List St} (h : Dn N r) (hm : N ≤ M) (hM : M ≤ 10000) : Dn M r := by
  obtain ⟨h1, b, a, h2, h3⟩ := h
  exact ⟨h1, b, a, h2, h3.mono hm hM⟩
theorem deed_wp {b a : List St} {N : Nat} {s : List Int} (h : Iv b a N) (hN : N + 1 ≤ 10000) (hs : Stm s) : Wp (M_l_deed (b, a) b a s) fun r => Dn (N + 1) (r.1, r.2.1, r.2.2.1, r.2.2.2.1) ∧ Stm r.2.2.2.2 := by
  have hl := h.ln
  unfold M_l_deed
  refine wp_next hs (by decide) (by decide) fun w t _ _ ht => wp_let (wp_ite (fun _ => ?_) fun _ => wp_ite (fun _ => ?_) fun _ => wp_ite (fun _ => ?_) fun _ => wp_ite (fun _ => ?_) fun _ => ?_)
  · obtain ⟨c, y, rfl⟩ := snoc_of h.ne
    rw [atI_last]
    exact wp_let (wp_then (push_wp h (h.ob y (List.mem_append_right _ (List.mem_singleton.mpr rfl))) hN) fun r hr => wp_some ⟨hr, ht⟩)
  · exact wp_then (state_wp ht) fun r ⟨h1, h2⟩ => wp_then (push_wp h h1 hN) fun r hr => wp_some ⟨hr, h2⟩
  · exact wp_then (undo_wp h) fun r hr => wp_some ⟨hr.mono (Nat.le_succ _) hN, ht⟩
  · exact wp_then (redo_wp h) fun r hr => wp_some ⟨hr.mono (Nat.le_succ _) hN, ht⟩
  · exact wp_next ht (by omega) (by have := h.nn; omega) fun i t _ _ ht => wp_then (back_wp h) fun r hr => wp_some ⟨hr.mono (Nat.le_succ _) hN, ht⟩
theorem bnd {α β : Type} {m : Option α} {a : α} {k : α → Option β} (h : m = some a) : m.bind k = k a := by rw [h]; rfl
theorem chk {γ : Type} {N : Nat} {m : Option (Bool × Hs × List St × List St)} (hm : Wp m (Dn N)) {A B : (Bool × Hs × List St × List St) → Option γ} {Q : γ → Prop} (hB : ∀ b a, Iv b a N → Wp (B (true, (b, a), b, a)) Q) :
    Wp (m.bind fun r => ((if (!(r.1)) = true then some (true, ()) else (M_l_looks (r.2.1) (r.2.2.1) (r.2.2.2)).bind fun r' => some ((!r'), ())).bind fun c => if c.1 = true then A r else B r)) Q := by
  refine wp_then hm fun r hr => ?_
  obtain ⟨h1, b, a, h2, h3⟩ := hr
  obtain ⟨r1, r2⟩ := r
  have h1 : r1 = true := h1
  have h2 : r2 = ((b, a), b, a) := h2
  subst h1 h2
  refine wp_eq (a := (false, ())) ?_ ?_
  · rw [if_neg (by simp)]
    dsimp only
    rw [looks_ok h3]; rfl
  · rw [if_neg (by simp)]
    exact hB b a h3
def Ls (N : Nat) (s : Hs × List St × List St) : Prop := ∃ b a, s = ((b, a), b, a) ∧ Iv b a N
theorem loop_wp {α γ : Type} {N : Nat} {xs : List α} {s0 : Hs × List St × List St} {f : α → (Hs × List St × List St) → Option (Bo (Hs × List St × List St) (Tm (Hs × List St × List St) (Bool × Hs × List St × List St)))} {k : Hs × List St × List St → Option γ} {ι : (Bool × Hs × List St × List St) → γ} {Q : γ → Prop}
    (h : Ls N s0) (hf : ∀ x b a, Iv b a N → Wp (f x ((b, a), b, a)) fun r => ∃ s, r = .nx s ∧ Ls N s) (hk : ∀ b a, Iv b a N → Wp (k ((b, a), b, a)) Q) : Wp ((forL xs s0 f).bind (boK k ι)) Q := by
  refine wp_bind (wp_forL (fun _ s => Ls N s) h ?_ ?_)
  · rintro p x q s e ⟨b, a, rfl, h⟩
    exact wp_mono (hf x b a h) fun r ⟨s, e, h⟩ => by rw [e]; exact h
  · rintro s ⟨b, a, rfl, h⟩
    exact hk b a h
theorem up_wp {b a : List St} {N : Nat} (h : Iv b a N) (hN : N + 1 ≤ 10000) {y : St} (ey : atI b (-(1 : Int)) = some y) : Wp ((atI b (-(1 : Int))).bind fun x339 => (M_l_push (b, a) b a x339).bind fun r340 => ((if (!(r340.1)) = true then some (true, ()) else (M_l_looks (r340.2.1) (r340.2.2.1) (r340.2.2.2)).bind fun r343 => some ((!r343), ()))).bind fun c344 => if c344.1 = true then some (false, r340.2.1, r340.2.2.1, r340.2.2.2) else (M_l_redo (r340.2.1) (r340.2.2.1) (r340.2.2.2)).bind fun r346 => ((if r346.1 = true then (M_l_looks (r346.2.1) (r346.2.2.1) (r346.2.2.2)).bind fun r349 => some (r349, ()) else some (false, ()))).bind fun c350 => some (c350.1, r346.2.1, r346.2.2.1, r346.2.2.2)) (Dn (N + 1)) := by
  have hy : Sok y := by
    obtain ⟨c, z, rfl⟩ := snoc_of h.ne
    rw [atI_last] at ey
    cases ey
    exact h.ob _ (List.mem_append_right _ (List.mem_singleton.mpr rfl))
  refine wp_eq ey (chk (push_wp h hy hN) fun b a h => wp_then (redo_wp h) fun r hr => ?_)
  obtain ⟨h1, b', a', h2, h3⟩ := hr
  obtain ⟨r1, r2⟩ := r
  have h1 : r1 = true := h1
  have h2 : r2 = ((b', a'), b', a') := h2
  subst h1 h2
  refine wp_eq (a := (true, ())) ?_ (wp_some ⟨rfl, b', a', rfl, h3⟩)
  rw [if_pos rfl]
  dsimp only
  rw [looks_ok h3]; rfl
theorem down_wp {b a : List St} {N : Nat} (h : Iv b a N) (hN : N + 1 ≤ 10000) : Wp (M_l_down_and_up (b, a) b a) (Dn (N + 1)) := by
  have hn := h.nn
  have hl := h.ln
  unfold M_l_down_and_up
  refine wp_grd (rg_lt (by omega) (by omega)) (loop_wp ⟨b, a, rfl, h⟩ (fun x b a h => ?_) fun b a h => ?_)
  · exact chk (undo_wp h) fun b a h => wp_some ⟨_, rfl, b, a, rfl, h⟩
  have hl := h.ln
  refine wp_grd (rg_lt (by dsimp only; omega) (by dsimp only; omega)) (loop_wp ⟨b, a, rfl, h⟩ (fun x b a h => ?_) fun b a h => ?_)
  · exact chk (redo_wp h) fun b a h => wp_some ⟨_, rfl, b, a, rfl, h⟩
  refine wp_grd rfl (loop_wp ⟨b, a, rfl, h⟩ (fun x b a h => ?_) fun b a h => ?_)
  · exact chk (back_wp h) fun b a h => wp_some ⟨_, rfl, b, a, rfl, h⟩
  obtain ⟨c, y, e⟩ := snoc_of h.ne
  exact up_wp h hN (by rw [e, atI_last])
theorem rng2 {n : Nat} : rngL 0 (n + 2) = 0 :: 1 :: rngL 2 n := by
  unfold rngL
  rw [List.range_succ_eq_map, List.map_cons, List.range_succ_eq_map, List.map_cons, List.map_cons, List.map_map, List.map_map]
  congr 1
  congr 1
  refine List.map_congr_left fun i _ => ?_
  show (0 : Int) + ((i + 1 + 1 : Nat) : Int) = 2 + i
  omega
theorem long_ok : M_l_long_holds = some true := by
  have hz := sz
  apply wp_is
  unfold M_l_long_holds M_History___init__
  refine wp_let (wp_let (wp_grd (by rfl) (wp_bind (wp_for (fun p s => s = ((.inl 0 : St) :: p.map (fun i => (.inl i : St)), ([] : List St))) rfl ?_ fun s hs => ?_))))
  · rintro p x q s e rfl
    have hp := (rngL_split e).2
    unfold M_History_push
    refine wp_eq (a := ((), ((.inl 0 : St) :: p.map (fun i => (.inl i : St))) ++ [.inl x], [])) (gp (by
      dsimp only
      rw [List.length_cons, List.length_map]
      have hp : p.length < 1500 := hp
      omega)) (wp_some ?_)
    rw [List.map_append]; rfl
  · obtain ⟨R, hR, el⟩ : ∃ R, rngL 0 (1500 : Int).toNat = 0 :: 1 :: R ∧ R.length = 1498 := ⟨rngL 2 1498, rng2 (n := 1498), rngL_len _ _⟩
    rw [hs, hR]
    have er := backto_ok (b := (.inl 0 : St) :: ((0 : Int) :: 1 :: R).map (fun i => (.inl i : St))) (a := []) (t := 0) (by decide) (by rw [List.length_cons]; omega) (by rw [List.length_cons, List.length_map, List.length_cons, List.length_cons, el]; decide)
    rw [er]
    simp only [Option.bind_some]
    show Wp ((some (_ : St × Hs)).bind _) _
    refine wp_let ?_
    dsimp only
    have s1 : M_History_redo ([(.inl 0 : St)], (R.map (fun i => (.inl i : St))).reverse ++ [.inl 1] ++ [.inl 0]) = some (.ok (.inl 0, ([.inl 0, .inl 0], (R.map (fun i => (.inl i : St))).reverse ++ [.inl 1]))) := by
      unfold M_History_redo
      rw [if_neg (by simp)]
      dsimp only
      rw [pop_snoc, Option.bind_some, gp (by show 1 < sizeLine; omega)]
      rfl
    have s2 : M_History_redo ([(.inl 0 : St), .inl 0], (R.map (fun i => (.inl i : St))).reverse ++ [.inl 1]) = some (.ok (.inl 1, ([.inl 0, .inl 0, .inl 1], (R.map (fun i => (.inl i : St))).reverse))) := by
      unfold M_History_redo
      rw [if_neg (by simp)]
      dsimp only
      rw [pop_snoc, Option.bind_some, gp (by show 2 < sizeLine; omega)]
      rfl
    have ea : ([] : List St) ++ (((0 : Int) :: 1 :: R).map (fun i => (.inl i : St))).reverse = (R.map (fun i => (.inl i : St))).reverse ++ [.inl 1] ++ [.inl 0] := by simp
    refine wp_eq (a := 0) rfl (wp_eq (a := (false, ())) ?_ ?_)
    · rw [if_neg (by decide)]
      unfold M_History_steps M_History_undone
      simp [el]
    rw [if_neg (by decide)]
    show Wp (((M_History_redo ([(.inl 0 : St)], [] ++ (((0 : Int) :: 1 :: R).map (fun i => (.inl i : St))).reverse)).bind okx).bind _) _
    rw [ea, s1]
    refine wp_eq (a := (.inl 0, ([.inl 0, .inl 0], (R.map (fun i => (.inl i : St))).reverse ++ [.inl 1]))) rfl (wp_eq (a := 0) rfl (wp_eq (a := (true, ([.inl 0, .inl 0, .inl 1], (R.map (fun i => (.inl i : St))).reverse))) ?_ (wp_some rfl)))
    rw [if_pos (by decide)]
    dsimp only
    rw [s2]
    refine (bnd (α := St × Hs) (a := (.inl 1, ([.inl 0, .inl 0, .inl 1], (R.map (fun i => (.inl i : St))).reverse))) rfl).trans ?_
    refine (bnd (a := (1 : Int)) rfl).trans ?_
    rw [if_pos (by decide)]
    unfold M_History_steps M_History_undone
    simp [el]
def Pr2 (N : Nat) (s : List (List St) × List (List St) × List Hs) : Prop := ∃ b0 a0 b1 a1, s = ([a0, a1], [b0, b1], [(b0, a0), (b1, a1)]) ∧ Iv b0 a0 N ∧ Iv b1 a1 N
end My
end
section
namespace My
open PySem PySem.Spec PyProof.Rows L2 L3
theorem look2 {b0 a0 b1 a1 : List St} {N M : Nat} {ρ : Type} {r : ρ} (h0 : Iv b0 a0 N) (h1 : Iv b1 a1 M) : forL (rngL 0 (2 : Int).toNat) (() : Unit) (fun x500 s499 => (atI [(b0, a0), (b1, a1)] x500).bind fun x502 => (atI [b0, b1] x500).bind fun x503 => (atI [a0, a1] x500).bind fun x504 => (M_l_looks x502 x503 x504).bind fun r505 => if (!r505) = true then inB (some (Tm.rt r)) else some (Bo.nx () : Bo Unit (Tm Unit ρ))) = some (.nx ()) := by
  refine forL_go fun x hx => ?_
  obtain ⟨q0, q1⟩ := rngL_mem.mp hx
  have q1 : x < 2 := q1
  obtain rfl | rfl : x = 0 ∨ x = 1 := by omega
  · refine (bnd (a := (b0, a0)) rfl).trans ((bnd (a := b0) rfl).trans ((bnd (a := a0) rfl).trans ?_))
    rw [looks_ok h0]; rfl
  · refine (bnd (a := (b1, a1)) rfl).trans ((bnd (a := b1) rfl).trans ((bnd (a := a1) rfl).trans ?_))
    rw [looks_ok h1]; rfl
theorem law_ok (xs : List Int) : M_law xs = some true := by
  apply wp_is
  unfold M_law M_History___init__
  refine wp_stream (by decide) fun s hs => wp_let (wp_then (state_wp hs) fun r1 ⟨g1, hs1⟩ => wp_let (wp_then (state_wp hs1) fun r2 ⟨g2, hs2⟩ => wp_let ?_))
  obtain ⟨y1, t1⟩ := r1
  obtain ⟨y2, t2⟩ := r2
  have g1 : Sok y1 := g1
  have g2 : Sok y2 := g2
  have hs2 : Stm t2 := hs2
  have hi : ∀ y, Sok y → Iv [y] [] 1 := fun y hy => ⟨by simp, fun z hz => by rw [List.mem_singleton.mp hz]; exact hy, (fun _ h => nomatch h), by simp, by decide⟩
  refine wp_let (wp_let (wp_let (wp_let (wp_let (wp_grd (by unfold rg2; simp; omega) (wp_bind (wp_forL (fun p s => Pr2 (1 + p.length) s) ⟨[y1], [], [y2], [], rfl, hi _ g1, hi _ g2⟩ ?_ ?_)))))))
  · rintro p x q s e ⟨b0, a0, b1, a1, rfl, h0, h1⟩
    obtain ⟨ex, hp⟩ := rngL_split e
    have hN : 1 + p.length + 1 ≤ 10000 := by omega
    rw [List.length_append, List.length_singleton]
    refine wp_stream (by omega) fun s hs => wp_let (wp_next hs (by decide) (by decide) fun d t d0 d1 ht => wp_grd (by rfl) (wp_let ?_))
    dsimp only
    obtain hq | hq : d / 3 = 0 ∨ d / 3 = 1 := by omega
    · rw [hq]
      refine wp_eq (a := 0) rfl (wp_eq (a := (b0, a0)) rfl (wp_eq (a := 0) rfl (wp_eq (a := b0) rfl (wp_eq (a := 0) rfl (wp_eq (a := a0) rfl (wp_then (deed_wp h0 hN ht) fun r ⟨⟨w1, b, a, w2, w3⟩, wt⟩ => ?_))))))
      obtain ⟨r1, r2, r3, r4, r5⟩ := r
      have w1 : r1 = true := w1
      have w2 : (r2, r3, r4) = ((b, a), b, a) := w2
      have wt : Stm r5 := wt
      cases w2
      subst w1
      refine wp_ite (fun z => nomatch z) fun _ => wp_next wt (by decide) (by decide) fun d t d0 d1 ht => wp_then (P := fun o => o = Bo.nx t) (wp_ite (fun _ => wp_grd (by rfl) (wp_eq (look2 w3 h1) (wp_some rfl))) fun _ => wp_some rfl) fun o ho => ?_
      subst ho
      exact wp_some ⟨b, a, b1, a1, rfl, w3, h1.mono (by omega) hN⟩
    · rw [hq]
      refine wp_eq (a := 1) rfl (wp_eq (a := (b1, a1)) rfl (wp_eq (a := 1) rfl (wp_eq (a := b1) rfl (wp_eq (a := 1) rfl (wp_eq (a := a1) rfl (wp_then (deed_wp h1 hN ht) fun r ⟨⟨w1, b, a, w2, w3⟩, wt⟩ => ?_))))))
      obtain ⟨r1, r2, r3, r4, r5⟩ := r
      have w1 : r1 = true := w1
      have w2 : (r2, r3, r4) = ((b, a), b, a) := w2
      have wt : Stm r5 := wt
      cases w2
      subst w1
      refine wp_ite (fun z => nomatch z) fun _ => wp_next wt (by decide) (by decide) fun d t d0 d1 ht => wp_then (P := fun o => o = Bo.nx t) (wp_ite (fun _ => wp_grd (by rfl) (wp_eq (look2 h0 w3) (wp_some rfl))) fun _ => wp_some rfl) fun o ho => ?_
      subst ho
      exact wp_some ⟨b0, a0, b, a, rfl, h0.mono (by omega) hN, w3⟩
  rintro s hs
  rw [rngL_len] at hs
  have hM : ∃ M, M ≤ 100 ∧ Pr2 M s := ⟨_, by omega, hs⟩
  obtain ⟨M, hM, hs⟩ := hM
  refine wp_next hs2 (by decide) (by decide) fun d t d0 d1 ht => wp_eq (a := (false, ())) ?_ (wp_ite (fun z => nomatch z) fun _ => wp_grd (by rfl) (wp_bind (wp_forL (fun p s => Pr2 (M + p.length) s) hs ?_ ?_)))
  · split
    · rw [long_ok]; rfl
    · rfl
  · rintro p x q s e ⟨b0, a0, b1, a1, rfl, h0, h1⟩
    obtain ⟨ex, hp⟩ := rngL_split e
    have hp : p.length < 2 := hp
    have hN : M + p.length + 1 ≤ 10000 := by omega
    rw [List.length_append, List.length_singleton]
    obtain rfl | rfl : x = 0 ∨ x = 1 := by omega
    · refine wp_eq (a := (b0, a0)) rfl (wp_eq (a := b0) rfl (wp_eq (a := a0) rfl (wp_eq (looks_ok h0) (wp_ite (fun z => nomatch z) fun _ => wp_eq (a := 0) rfl (wp_eq (a := (b0, a0)) rfl (wp_eq (a := 0) rfl (wp_eq (a := b0) rfl (wp_eq (a := 0) rfl (wp_eq (a := a0) rfl (wp_then (down_wp h0 hN) fun r ⟨w1, b, a, w2, w3⟩ => ?_))))))))))
      obtain ⟨r1, r2⟩ := r
      have w1 : r1 = true := w1
      have w2 : r2 = ((b, a), b, a) := w2
      subst w1 w2
      exact wp_ite (fun z => nomatch z) fun _ => wp_some ⟨b, a, b1, a1, rfl, w3, h1.mono (by omega) hN⟩
    · refine wp_eq (a := (b1, a1)) rfl (wp_eq (a := b1) rfl (wp_eq (a := a1) rfl (wp_eq (looks_ok h1) (wp_ite (fun z => nomatch z) fun _ => wp_eq (a := 1) rfl (wp_eq (a := (b1, a1)) rfl (wp_eq (a := 1) rfl (wp_eq (a := b1) rfl (wp_eq (a := 1) rfl (wp_eq (a := a1) rfl (wp_then (down_wp h1 hN) fun r ⟨w1, b, a, w2, w3⟩ => ?_))))))))))
      obtain ⟨r1, r2⟩ := r
      have w1 : r1 = true := w1
      have w2 : r2 = ((b, a), b, a) := w2
      subst w1 w2
      exact wp_ite (fun z => nomatch z) fun _ => wp_some ⟨b0, a0, b, a, rfl, h0.mono (by omega) hN, w3⟩
  · rintro s ⟨b0, a0, b1, a1, rfl, h0, h1⟩
    unfold boK
    dsimp only
    exact wp_eq (a := (b0, a0)) rfl (wp_eq (a := b0) rfl (wp_eq (a := a0) rfl (wp_eq (looks_ok h0) (wp_some rfl))))
end My
end
section
set_option maxHeartbeats 0
namespace My
open PySem PySem.Spec PyProof.Rows L2 L3
theorem tx_EmptyRule : XTx (PySem.Challenge.rw_curbdesk_k16_history).prog x_EmptyRule := ⟨by decide, by rfl, ⟨_, _, _, _, _, _, _, _, _, _, rfl, .nil, rfl, rfl, rfl⟩, rfl, rfl, rfl, by decide +kernel, rfl, rfl, rfl, by decide +kernel, by decide, fun _ _ _ _ _ _ us hl => match us, hl with | [_], _ => rfl⟩
theorem tx_RepeatedName : XTx (PySem.Challenge.rw_curbdesk_k16_history).prog x_RepeatedName := ⟨by decide, by rfl, ⟨_, _, _, _, _, _, _, _, _, _, rfl, .cons (by decide) (.nil), rfl, rfl, rfl⟩, rfl, rfl, rfl, by decide +kernel, rfl, rfl, rfl, by decide +kernel, by decide, fun _ _ _ _ _ _ us hl => match us, hl with | [_, _], _ => rfl⟩
theorem tx_NothingToUndo : XTx (PySem.Challenge.rw_curbdesk_k16_history).prog x_NothingToUndo := ⟨by decide, by rfl, ⟨_, _, _, _, _, _, _, _, _, _, rfl, .nil, rfl, rfl, rfl⟩, rfl, rfl, rfl, by decide +kernel, rfl, rfl, rfl, by decide +kernel, by decide, fun _ _ _ _ _ _ us hl => match us, hl with | [_], _ => rfl⟩
theorem tx_NothingToRedo : XTx (PySem.Challenge.rw_curbdesk_k16_history).prog x_NothingToRedo := ⟨by decide, by rfl, ⟨_, _, _, _, _, _, _, _, _, _, rfl, .nil, rfl, rfl, rfl⟩, rfl, rfl, rfl, by decide +kernel, rfl, rfl, rfl, by decide +kernel, by decide, fun _ _ _ _ _ _ us hl => match us, hl with | [_], _ => rfl⟩
theorem tx_UnknownStep : XTx (PySem.Challenge.rw_curbdesk_k16_history).prog x_UnknownStep := ⟨by decide, by rfl, ⟨_, _, _, _, _, _, _, _, _, _, rfl, .cons (by decide) (.nil), rfl, rfl, rfl⟩, rfl, rfl, rfl, by decide +kernel, rfl, rfl, rfl, by decide +kernel, by decide, fun _ _ _ _ _ _ us hl => match us, hl with | [_, _], _ => rfl⟩
theorem facts {w : World} {K : PySem.W.Frag} {h : Heap} {mg : Str → Option Value} {f : Addr} (X : K.In h) (G : h.Ns mainGlobals mg) (hfa : mg ("law" : Str) = some (.ref f)) (cp : SaysP R.prog fa fn xs rsL csL prs qs K) :
    ∃ fd : FuncData, (∀ (s : Shared) (v : Value), BindsTo s fd ⟨[v], []⟩ [("_law_script", v)]) ∧ ∀ base : Heap, K.In base → base.Ns mainGlobals mg → FnOk R.prog w K mg base CX0 6 f fd ["_law_script"] (Sp_S K M_law) := by
  have cx := cp.x
  have c := cx.d
  obtain ⟨fd__wall, F__wall⟩ := c.def_ 0 (d := d__wall) rfl
  obtain ⟨fd_checked_names, F_checked_names⟩ := c.def_ 1 (d := d_checked_names) rfl
  obtain ⟨fd__law_is_integer, F__law_is_integer⟩ := c.def_ 2 (d := d__law_is_integer) rfl
  obtain ⟨fd__law_stream, F__law_stream⟩ := c.def_ 3 (d := d__law_stream) rfl
  obtain ⟨fd__law_next, F__law_next⟩ := c.def_ 4 (d := d__law_next) rfl
  obtain ⟨fd__law_state, F__law_state⟩ := c.def_ 5 (d := d__law_state) rfl
  obtain ⟨fd__law_same_state, F__law_same_state⟩ := c.def_ 6 (d := d__law_same_state) rfl
  obtain ⟨fd__law_looks, F__law_looks⟩ := c.def_ 7 (d := d__law_looks) rfl
  obtain ⟨fd__law_undo, F__law_undo⟩ := c.def_ 8 (d := d__law_undo) rfl
  obtain ⟨fd__law_redo, F__law_redo⟩ := c.def_ 9 (d := d__law_redo) rfl
  obtain ⟨fd__law_back, F__law_back⟩ := c.def_ 10 (d := d__law_back) rfl
  obtain ⟨fd__law_push, F__law_push⟩ := c.def_ 11 (d := d__law_push) rfl
  obtain ⟨fd__law_deed, F__law_deed⟩ := c.def_ 12 (d := d__law_deed) rfl
  obtain ⟨fd__law_down_and_up, F__law_down_and_up⟩ := c.def_ 13 (d := d__law_down_and_up) rfl
  obtain ⟨fd__law_long_holds, F__law_long_holds⟩ := c.def_ 14 (d := d__law_long_holds) rfl
  obtain ⟨fd_law, F_law⟩ := c.def_ 15 (d := d_law) rfl
  obtain ⟨fd_History___init__, F_History___init__⟩ := c.def_ 16 (d := d_History___init__) rfl
  obtain ⟨fd_Unlike___init__, F_Unlike___init__⟩ := c.def_ 17 (d := d_Unlike___init__) rfl
  obtain ⟨fd_History_push, F_History_push⟩ := c.def_ 18 (d := d_History_push) rfl
  obtain ⟨fd_History_undo, F_History_undo⟩ := c.def_ 19 (d := d_History_undo) rfl
  obtain ⟨fd_History_redo, F_History_redo⟩ := c.def_ 20 (d := d_History_redo) rfl
  obtain ⟨fd_History_back_to, F_History_back_to⟩ := c.def_ 21 (d := d_History_back_to) rfl
  have e := hfa.symm.trans (He.glo_ok X G (c.fact 15 (f := .glo "law") rfl))
  cases e
  have b := FunD.bindsA (ps := ["_law_script"]) F_law fun _ _ _ _ _ _ us hl => match us, hl with | [_], _ => rfl
  have gl : ∀ x ∈ rsL, mg x = some (.ref (He.ga K x)) := by
    intro x hx
    simp only [rsL, List.mem_cons, List.not_mem_nil, or_false] at hx
    rcases hx with rfl | rfl | rfl | rfl | rfl
    · exact He.glo_ok X G (c.fact 16 (f := .glo "EmptyRule") rfl)
    · exact He.glo_ok X G (c.fact 17 (f := .glo "RepeatedName") rfl)
    · exact He.glo_ok X G (c.fact 18 (f := .glo "NothingToUndo") rfl)
    · exact He.glo_ok X G (c.fact 19 (f := .glo "NothingToRedo") rfl)
    · exact He.glo_ok X G (c.fact 20 (f := .glo "UnknownStep") rfl)
  have xc : ∀ x ∈ rsL, XcT R.prog K mg x := by
    intro x hx
    simp only [rsL, List.mem_cons, List.not_mem_nil, or_false] at hx
    rcases hx with rfl | rfl | rfl | rfl | rfl
    · exact cx.xc 0 (d := x_EmptyRule) rfl tx_EmptyRule (gl _ (by decide +kernel)) rfl
    · exact cx.xc 1 (d := x_RepeatedName) rfl tx_RepeatedName (gl _ (by decide +kernel)) rfl
    · exact cx.xc 2 (d := x_NothingToUndo) rfl tx_NothingToUndo (gl _ (by decide +kernel)) rfl
    · exact cx.xc 3 (d := x_NothingToRedo) rfl tx_NothingToRedo (gl _ (by decide +kernel)) rfl
    · exact cx.xc 4 (d := x_UnknownStep) rfl tx_UnknownStep (gl _ (by decide +kernel)) rfl
  have gc : ∀ y ∈ csL, y = "ValueError" ∧ mg y = none ∨ y ≠ "ValueError" ∧ mg y = some (.ref (He.ga K y)) := by
    intro y hy
    simp only [csL, List.mem_cons, List.not_mem_nil, or_false] at hy
    rcases hy with rfl | rfl | rfl | rfl | rfl | rfl | rfl | rfl | rfl | rfl | rfl | rfl | rfl | rfl | rfl | rfl | rfl | rfl | rfl | rfl | rfl | rfl | rfl | rfl | rfl | rfl
    · exact .inr ⟨by decide, He.glo_ok X G (c.fact 18 (f := .glo "NothingToUndo") rfl)⟩
    · exact .inr ⟨by decide, He.glo_ok X G (c.fact 21 (f := .glo "UnknownName") rfl)⟩
    · exact .inr ⟨by decide, He.glo_ok X G (c.fact 17 (f := .glo "RepeatedName") rfl)⟩
    · exact .inr ⟨by decide, He.glo_ok X G (c.fact 22 (f := .glo "UnknownValue") rfl)⟩
    · exact .inr ⟨by decide, He.glo_ok X G (c.fact 23 (f := .glo "RepeatedValue") rfl)⟩
    · exact .inr ⟨by decide, He.glo_ok X G (c.fact 24 (f := .glo "UnknownKey") rfl)⟩
    · exact .inr ⟨by decide, He.glo_ok X G (c.fact 25 (f := .glo "RepeatedKey") rfl)⟩
    · exact .inr ⟨by decide, He.glo_ok X G (c.fact 16 (f := .glo "EmptyRule") rfl)⟩
    · exact .inr ⟨by decide, He.glo_ok X G (c.fact 26 (f := .glo "BadRow") rfl)⟩
    · exact .inr ⟨by decide, He.glo_ok X G (c.fact 27 (f := .glo "BadBounds") rfl)⟩
    · exact .inr ⟨by decide, He.glo_ok X G (c.fact 28 (f := .glo "BadNumber") rfl)⟩
    · exact .inr ⟨by decide, He.glo_ok X G (c.fact 29 (f := .glo "BadStep") rfl)⟩
    · exact .inr ⟨by decide, He.glo_ok X G (c.fact 30 (f := .glo "NoMark") rfl)⟩
    · exact .inr ⟨by decide, He.glo_ok X G (c.fact 31 (f := .glo "NotStruck") rfl)⟩
    · exact .inr ⟨by decide, He.glo_ok X G (c.fact 32 (f := .glo "BadOrder") rfl)⟩
    · exact .inr ⟨by decide, He.glo_ok X G (c.fact 33 (f := .glo "NotBare") rfl)⟩
    · exact .inr ⟨by decide, He.glo_ok X G (c.fact 34 (f := .glo "NoClash") rfl)⟩
    · exact .inr ⟨by decide, He.glo_ok X G (c.fact 35 (f := .glo "HoldsAnswer") rfl)⟩
    · exact .inr ⟨by decide, He.glo_ok X G (c.fact 36 (f := .glo "BadLine") rfl)⟩
    · exact .inr ⟨by decide, He.glo_ok X G (c.fact 37 (f := .glo "UnknownLine") rfl)⟩
    · exact .inr ⟨by decide, He.glo_ok X G (c.fact 38 (f := .glo "BadText") rfl)⟩
    · exact .inr ⟨by decide, He.glo_ok X G (c.fact 19 (f := .glo "NothingToRedo") rfl)⟩
    · exact .inr ⟨by decide, He.glo_ok X G (c.fact 20 (f := .glo "UnknownStep") rfl)⟩
    · exact .inr ⟨by decide, He.glo_ok X G (c.fact 39 (f := .glo "BadDeed") rfl)⟩
    · exact .inr ⟨by decide, He.glo_ok X G (c.fact 40 (f := .glo "DeskError") rfl)⟩
    · exact .inl ⟨rfl, He.free_ok X G (c.fact 43 (f := .free "ValueError") rfl)⟩
  have xt : XsT R.prog K mg rsL csL := cx.xst (He.free_ok X G (c.fact 53 (f := .free "super") rfl)) xc gl gc
  obtain ⟨PP_History_state, fd_History_state, F_History_state⟩ := cp.pr 0 (d := p_History_state) rfl
  obtain ⟨PP_History_steps, fd_History_steps, F_History_steps⟩ := cp.pr 1 (d := p_History_steps) rfl
  obtain ⟨PP_History_undone, fd_History_undone, F_History_undone⟩ := cp.pr 2 (d := p_History_undone) rfl
  have C : Ev R.prog K mg := ⟨xt, ⟨_, _, fd_History___init__, He.glo_ok X G (c.fact 41 (f := .glo "History") rfl), He.cls_ok (c.fact 55 (f := .cls "History") rfl), He.mkr_ok (c.fact 56 (f := .mkr "History") rfl), F_History___init__, He.eqO_ok (c.fact 57 (f := .noat "History" "_done") rfl), He.eqO_ok (c.fact 58 (f := .noat "History" "_undone") rfl)⟩, ⟨_, _, fd_Unlike___init__, He.glo_ok X G (c.fact 42 (f := .glo "Unlike") rfl), He.cls_ok (c.fact 59 (f := .cls "Unlike") rfl), He.mkr_ok (c.fact 60 (f := .mkr "Unlike") rfl), F_Unlike___init__, He.eqO_ok (c.fact 61 (f := .noat "Unlike" "names") rfl)⟩, ⟨_, fd__wall, F__wall, He.glo_ok X G (c.fact 0 (f := .glo "_wall") rfl)⟩, ⟨_, fd_checked_names, F_checked_names, He.glo_ok X G (c.fact 1 (f := .glo "checked_names") rfl)⟩, ⟨_, fd__law_is_integer, F__law_is_integer, He.glo_ok X G (c.fact 2 (f := .glo "_law_is_integer") rfl)⟩, ⟨_, fd__law_stream, F__law_stream, He.glo_ok X G (c.fact 3 (f := .glo "_law_stream") rfl)⟩, ⟨_, fd__law_next, F__law_next, He.glo_ok X G (c.fact 4 (f := .glo "_law_next") rfl)⟩, ⟨_, fd__law_state, F__law_state, He.glo_ok X G (c.fact 5 (f := .glo "_law_state") rfl)⟩, ⟨_, fd__law_same_state, F__law_same_state, He.glo_ok X G (c.fact 6 (f := .glo "_law_same_state") rfl)⟩, ⟨_, fd__law_looks, F__law_looks, He.glo_ok X G (c.fact 7 (f := .glo "_law_looks") rfl)⟩, ⟨_, fd__law_undo, F__law_undo, He.glo_ok X G (c.fact 8 (f := .glo "_law_undo") rfl)⟩, ⟨_, fd__law_redo, F__law_redo, He.glo_ok X G (c.fact 9 (f := .glo "_law_redo") rfl)⟩, ⟨_, fd__law_back, F__law_back, He.glo_ok X G (c.fact 10 (f := .glo "_law_back") rfl)⟩, ⟨_, fd__law_push, F__law_push, He.glo_ok X G (c.fact 11 (f := .glo "_law_push") rfl)⟩, ⟨_, fd__law_deed, F__law_deed, He.glo_ok X G (c.fact 12 (f := .glo "_law_deed") rfl)⟩, ⟨_, fd__law_down_and_up, F__law_down_and_up, He.glo_ok X G (c.fact 13 (f := .glo "_law_down_and_up") rfl)⟩, ⟨_, fd__law_long_holds, F__law_long_holds, He.glo_ok X G (c.fact 14 (f := .glo "_law_long_holds") rfl)⟩, ⟨_, _, _, fd_History_state, He.glo_ok X G (c.fact 41 (f := .glo "History") rfl), He.cls_ok (c.fact 55 (f := .cls "History") rfl), PP_History_state, F_History_state⟩, ⟨_, _, _, fd_History_steps, He.glo_ok X G (c.fact 41 (f := .glo "History") rfl), He.cls_ok (c.fact 55 (f := .cls "History") rfl), PP_History_steps, F_History_steps⟩, ⟨_, _, _, fd_History_undone, He.glo_ok X G (c.fact 41 (f := .glo "History") rfl), He.cls_ok (c.fact 55 (f := .cls "History") rfl), PP_History_undone, F_History_undone⟩, ⟨_, _, fd_History_push, He.glo_ok X G (c.fact 41 (f := .glo "History") rfl), He.cls_ok (c.fact 55 (f := .cls "History") rfl), He.meth_ok (c.fact 62 (f := .meth "History" "push") rfl), F_History_push⟩, ⟨_, _, fd_History_undo, He.glo_ok X G (c.fact 41 (f := .glo "History") rfl), He.cls_ok (c.fact 55 (f := .cls "History") rfl), He.meth_ok (c.fact 63 (f := .meth "History" "undo") rfl), F_History_undo⟩, ⟨_, _, fd_History_redo, He.glo_ok X G (c.fact 41 (f := .glo "History") rfl), He.cls_ok (c.fact 55 (f := .cls "History") rfl), He.meth_ok (c.fact 64 (f := .meth "History" "redo") rfl), F_History_redo⟩, ⟨_, _, fd_History_back_to, He.glo_ok X G (c.fact 41 (f := .glo "History") rfl), He.cls_ok (c.fact 55 (f := .cls "History") rfl), He.meth_ok (c.fact 65 (f := .meth "History" "back_to") rfl), F_History_back_to⟩, fun C_ h_ => by have e_ := h_.symm.trans (He.glo_ok X G (c.fact 42 (f := .glo "Unlike") rfl)); cases e_; exact Qf.isf (cp.q 0 rfl), fun C_ h_ => by have e_ := h_.symm.trans (He.glo_ok X G (c.fact 42 (f := .glo "Unlike") rfl)); cases e_; exact Qf.kits (cp.q 1 rfl), fun C_ h_ => by have e_ := h_.symm.trans (He.glo_ok X G (c.fact 42 (f := .glo "Unlike") rfl)); cases e_; exact Qf.kits (cp.q 2 rfl), fun C_ h_ => by have e_ := h_.symm.trans (He.glo_ok X G (c.fact 42 (f := .glo "Unlike") rfl)); cases e_; exact Qf.kits (cp.q 3 rfl), fun C_ h_ => by have e_ := h_.symm.trans (He.glo_ok X G (c.fact 42 (f := .glo "Unlike") rfl)); cases e_; exact Qf.kits (cp.q 4 rfl), fun C_ h_ => by have e_ := h_.symm.trans (He.glo_ok X G (c.fact 42 (f := .glo "Unlike") rfl)); cases e_; exact Qf.kits (cp.q 5 rfl), He.free_ok X G (c.fact 43 (f := .free "ValueError") rfl), He.free_ok X G (c.fact 44 (f := .free "bool") rfl), He.free_ok X G (c.fact 45 (f := .free "int") rfl), He.free_ok X G (c.fact 46 (f := .free "isinstance") rfl), He.free_ok X G (c.fact 47 (f := .free "len") rfl), He.free_ok X G (c.fact 48 (f := .free "min") rfl), He.free_ok X G (c.fact 49 (f := .free "property") rfl), He.free_ok X G (c.fact 50 (f := .free "range") rfl), He.free_ok X G (c.fact 51 (f := .free "set") rfl), He.free_ok X G (c.fact 52 (f := .free "str") rfl), He.free_ok X G (c.fact 53 (f := .free "super") rfl), He.free_ok X G (c.fact 54 (f := .free "tuple") rfl)⟩
  exact ⟨fd_law, fun s v => b s [v] rfl, fun base _ _ => ok_law C F_law⟩
end My
end
set_option maxHeartbeats 0
open PySem PySem.W PySem.Calls PyProof.Rows
theorem PySem.Challenge.cw_curbdesk_k16_history_holds : PySem.Challenge.rw_curbdesk_k16_history.Holds := by
  w_on; o_law
  refine HandSHeadRun.head_any (r := OpenLaw.row PySem.Challenge.rw_curbdesk_k16_history) (q := view (OpenLaw.row PySem.Challenge.rw_curbdesk_k16_history).prog [47]) (H := My.hk) (ob := My.ob) (M := 30000) (loose := My.loose) (d := HandSHeadRun.topDef (OpenLaw.row PySem.Challenge.rw_curbdesk_k16_history).prog 47) (kwd := []) My.ob_eq
    (by kernel_rfl) (fun s => by kernel_rfl) My.run (by kernel_rfl) (by kernel_rfl) (by kernel_rfl) (by rfl) (by first | assumption | decide +kernel) (by decide +kernel) ⟨rfl, rfl, rfl, rfl, rfl, by decide +kernel⟩ ?hw ?hc
  case hw => w_witness2
  case hc =>
    refine L2.walk_ofE (l := PySem.Challenge.rw_curbdesk_k16_history) (n := 63) (k := 6) (x := "_law_script") (CX := L2.CX0) rfl (by decide) (by kernel_rfl) ⟨rfl, by decide, by decide⟩ ?F (fun _ _ _ _ z => z)
    intro w mg fa h Y G hmg0
    obtain ⟨K, KX, c⟩ := Y
    have hmg : mg ("law" : PySem.Str) = some (.ref fa) := by
      have e : (HandSHeadRun.topDef (OpenLaw.row PySem.Challenge.rw_curbdesk_k16_history).prog 47).name = ("law" : PySem.Str) := by kernel_rfl
      rw [← e]
      exact hmg0
    obtain ⟨fd, hb, hF⟩ := My.facts (w := w) KX G hmg c
    exact ⟨K, fd, L3.Sp_S K My.M_law, KX, hb, fun H a ns hl _ hS => ⟨a, ns, rfl, Nat.le_trans hl (by decide), hS, true, My.law_ok ns, fun _ => rfl⟩, hF⟩
